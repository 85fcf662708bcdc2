import PyProof.Rows.All
import Wide.All
import OpenK.AllK
import Wide.FinOn
import KE.LcSums
import KE.BytesMake
import KE.KBytesWalk
import KE.KTurns
import KE.KPairComp
import KE.KUnpack
import KE.KBytesCut
import KE.KItem
import KE.KTryDeep
import PyProof.ExcBaseAll.Exception
import PyProof.InstStoreFacts
import KE.KPar
import KE.KSliceW
import KE.KRevSl
import KE.BitLaws
import KE.KBytesAny
import Lean
import PySem.Challenge.RW_np0189_01
set_option Elab.async false
set_option maxRecDepth 100000
set_option linter.unusedVariables false
set_option genSizeOf false
set_option genInjectivity false
set_option genCtorIdx false
set_option compiler.extract_closed false
set_option bootstrap.genMatcherCode false
open PySem PySem.Spec PySem.Calls PyProof.Rows PySem.W
open List (length_map prefix_refl mem_cons map_cons length_cons mem_map length_append append_assoc length_nil map_append mem_singleton mem_append_right mem_append_left length_range append_nil nodup_cons all_eq_true map_map size_toArray flatMap_cons lookup_cons mem_append length_take nodup_append mem_map_of_mem forall_mem_cons perm_middle map_nil length_drop reverse_cons replicate_succ nil_sublist flatten_cons flatMap_nil filterMap_cons take_of_length_le perm_append_comm length_set length_reverse flatMap_append)
open PySem.Str (ofString)
namespace Mine
noncomputable def theP : Program := PySem.Challenge.rw_np0189_01.prog
noncomputable def nthS : List Stmt → Nat → Stmt
 | [], _ => .Pass default
 | s :: _, 0 => s
 | _ :: r, n + 1 => nthS r n
noncomputable def stN (i : Nat) : Stmt := nthS theP.main.body i
noncomputable def cmN (i j : Nat) : Stmt := match stN i with
 | .ClassDef _ _ _ b .. => nthS b j
 | s => s
noncomputable def fnD (s : Stmt) (qual : Str) (dV kV doc pm cdv ct : Value) : Data := match s with
 | .FunctionDef n a b _ _ _ sc .. => .func (fnX n qual a b sc [] dV kV doc pm none cdv ct)
 | _ => .plain
noncomputable def dE (P : Params) (x : String) (t : Tok) (v : Value) : DictEntry := ⟨PyData.keyHash P (ofString x), .str (ofString x) t, v⟩
noncomputable def cO (n : String) (t1 : Tok) (q : String) (t2 t3 : Tok) (ln na fl : Int) (r1 r2 r3 r4 r5 : Value) (c1 c2 : Int) (t4 : Tok) : Obj :=
 ⟨.type "code", none, .fields [.str (ofString n) t1, .str (ofString q) t2, .str (ofString "/claim/cut.py") t3, .int ln 0, .int na 0, .int 0 0, .int 0 0, .int fl 0, r1, .bool true, .int 181 0, r2, .none, r3, r4, r5, .int c1 0, .int c2 0, .str (ofString "/claim/cut.py") t4].toArray, [].toArray⟩
noncomputable def fO (s : Stmt) (q : String) (dV : Value) (md : String) (t : Tok) (c : Addr) : Obj := ⟨.type "function", none, fnD s (ofString q) dV .none .none (.str (ofString md) t) (.ref c) .none, [].toArray⟩
noncomputable def theK : Params → Frag := fun P => [
 (3, ⟨(.type "dict"), none, (.dict [dE P "__name__" 165 (.str (ofString "law_np0189_01") 588), dE P "__doc__" 166 .none, dE P "__package__" 167 .none, dE P "__loader__" 168 (.builtin "__main__.__loader__#opaque"), dE P "__spec__" 169 .none, dE P "__annotations__" 170 (.ref 6), dE P "__builtins__" 171 (.ref 4), dE P "__file__" 173 (.str (ofString "/claim/cut.py") 172), dE P "__cached__" 174 .none, dE P "PoolFault" 217 (.ref 31), dE P "Corrupt" 233 (.ref 44), dE P "Misused" 249 (.ref 56), dE P "number_of" 257 (.ref 63), dE P "octets_of" 263 (.ref 68), dE P "text_octets" 269 (.ref 73), dE P "octets_text" 275 (.ref 78), dE P "Sink" 336 (.ref 123), dE P "Cursor" 399 (.ref 173), dE P "MAGIC" 403 (.int (1953654117) 402), dE P "VERSION" 405 (.int (1) 404), dE P "MOST_PARITY" 407 (.int (3) 406), dE P "MOST_CHILDREN" 409 (.int (32) 408), dE P "NUMBERS" 413 (.int (4294967296) 412), dE P "Node" 455 (.ref 201), dE P "Config" 497 (.ref 228), dE P "sorts" 503 (.ref 239), dE P "number_of_disks" 513 (.ref 246), dE P "disk_node" 520 (.ref 253), dE P "node_of" 526 (.ref 258), dE P "plan_of" 532 (.ref 263), dE P "disks_of" 541 (.ref 270), dE P "config_of_plans" 548 (.ref 276), dE P "all_disks" 557 (.ref 283), dE P "put_node" 566 (.ref 290), dE P "config_octets" 575 (.ref 297), dE P "read_node" 581 (.ref 302), dE P "config_of" 587 (.ref 307), dE P "_law_disks" 595 (.ref 312), dE P "_law_plan" 605 (.ref 319), dE P "_law_is_disk" 612 (.ref 326), dE P "_law_guids" 618 (.ref 331), dE P "_law_is_plan" 624 (.ref 336), dE P "_law_number" 630 (.ref 341), dE P "_law_digits" 636 (.ref 346), dE P "_law_octets" 642 (.ref 351), dE P "_law_take" 648 (.ref 356), dE P "_law_node" 654 (.ref 361), dE P "_law_read" 660 (.ref 366), dE P "_law_told" 667 (.ref 373), dE P "_law_made" 677 (.ref 380), dE P "_law_is_read" 689 (.ref 387), dE P "law" 695 (.ref 392)].toArray 52), [].toArray⟩),
 (27, cO "__init__" 201 "PoolFault.__init__" 202 203 4 2 3 (.ref 22) (.ref 23) (.ref 24) (.ref 25) (.ref 26) 206 4 207),
 (28, fO (cmN 1 0) "PoolFault.__init__" .none "treepool.faults" 187 27),
 (30, ⟨(.type "dict"), none, (.dict [dE P "__module__" 196 (.str (ofString "treepool.faults") 187), dE P "__firstlineno__" 200 (.int (2) 199), dE P "__init__" 208 (.ref 28), dE P "__static_attributes__" 210 (.ref 29), dE P "__weakref__" 212 (.ref 32), dE P "__doc__" 213 .none].toArray 3), [].toArray⟩),
 (31, ⟨(.type "type"), none, (.cls ⟨(ofString "PoolFault"), [(.type "Exception")], [(.ref 31), (.type "Exception"), (.type "BaseException"), (.type "object")], 30, (ofString "PoolFault"), true, [], [(.ref 44), (.ref 56)], false, none, false⟩), [(some (.ref 15)), none, (some (.str (ofString "PoolFault") 189)), (some (.str (ofString "PoolFault") 197)), (some (.builtin "Exception.__new__")), (some (.bool true))].toArray⟩),
 (43, ⟨(.type "dict"), none, (.dict [dE P "__module__" 225 (.str (ofString "treepool.faults") 187), dE P "__firstlineno__" 229 (.int (7) 228), dE P "__static_attributes__" 230 (.ref 42), dE P "__doc__" 231 .none].toArray 2), [].toArray⟩),
 (44, ⟨(.type "type"), none, (.cls ⟨(ofString "Corrupt"), [(.ref 31)], [(.ref 44), (.ref 31), (.type "Exception"), (.type "BaseException"), (.type "object")], 43, (ofString "Corrupt"), true, [], [], false, none, false⟩), [(some (.ref 35)), none, (some (.str (ofString "Corrupt") 218)), (some (.str (ofString "Corrupt") 226)), (some (.builtin "Exception.__new__")), (some (.bool true))].toArray⟩),
 (55, ⟨(.type "dict"), none, (.dict [dE P "__module__" 241 (.str (ofString "treepool.faults") 187), dE P "__firstlineno__" 245 (.int (9) 244), dE P "__static_attributes__" 246 (.ref 54), dE P "__doc__" 247 .none].toArray 2), [].toArray⟩),
 (56, ⟨(.type "type"), none, (.cls ⟨(ofString "Misused"), [(.ref 31)], [(.ref 56), (.ref 31), (.type "Exception"), (.type "BaseException"), (.type "object")], 55, (ofString "Misused"), true, [], [], false, none, false⟩), [(some (.ref 47)), none, (some (.str (ofString "Misused") 234)), (some (.str (ofString "Misused") 242)), (some (.builtin "Exception.__new__")), (some (.bool true))].toArray⟩),
 (62, cO "number_of" 252 "number_of" 253 254 12 1 3 (.ref 59) (.ref 60) .none .none (.ref 61) 255 12 256),
 (63, fO (stN 5) "number_of" .none "treepool.octets" 250 62),
 (67, cO "octets_of" 258 "octets_of" 259 260 14 2 3 (.ref 64) (.ref 65) .none .none (.ref 66) 261 14 262),
 (68, fO (stN 6) "octets_of" .none "treepool.octets" 250 67),
 (72, cO "text_octets" 264 "text_octets" 265 266 18 1 3 (.ref 69) (.ref 70) .none .none (.ref 71) 267 18 268),
 (73, fO (stN 7) "text_octets" .none "treepool.octets" 250 72),
 (77, cO "octets_text" 270 "octets_text" 271 272 23 1 3 (.ref 74) (.ref 75) .none .none (.ref 76) 273 23 274),
 (78, fO (stN 8) "octets_text" .none "treepool.octets" 250 77),
 (91, cO "__init__" 288 "Sink.__init__" 289 290 29 1 3 (.ref 86) (.ref 87) (.ref 88) (.ref 89) (.ref 90) 292 29 293),
 (92, fO (cmN 9 0) "Sink.__init__" .none "treepool.octets" 250 91),
 (98, cO "number" 295 "Sink.number" 296 297 32 3 3 (.ref 93) (.ref 94) (.ref 95) (.ref 96) (.ref 97) 301 32 302),
 (99, fO (cmN 9 1) "Sink.number" .none "treepool.octets" 250 98),
 (105, cO "put" 304 "Sink.put" 305 306 35 2 3 (.ref 100) (.ref 101) (.ref 102) (.ref 103) (.ref 104) 309 35 310),
 (106, fO (cmN 9 2) "Sink.put" .none "treepool.octets" 250 105),
 (112, cO "text" 312 "Sink.text" 313 314 38 2 3 (.ref 107) (.ref 108) (.ref 109) (.ref 110) (.ref 111) 318 38 319),
 (113, fO (cmN 9 3) "Sink.text" .none "treepool.octets" 250 112),
 (119, cO "whole" 321 "Sink.whole" 322 323 43 1 3 (.ref 114) (.ref 115) (.ref 116) (.ref 117) (.ref 118) 325 43 326),
 (120, fO (cmN 9 4) "Sink.whole" .none "treepool.octets" 250 119),
 (122, ⟨(.type "dict"), none, (.dict [dE P "__module__" 283 (.str (ofString "treepool.octets") 250), dE P "__firstlineno__" 287 (.int (27) 286), dE P "__init__" 294 (.ref 92), dE P "number" 303 (.ref 99), dE P "put" 311 (.ref 106), dE P "text" 320 (.ref 113), dE P "whole" 327 (.ref 120), dE P "__static_attributes__" 329 (.ref 121), dE P "__dict__" 331 (.ref 124), dE P "__weakref__" 333 (.ref 125), dE P "__doc__" 334 .none].toArray 4), [].toArray⟩),
 (123, ⟨(.type "type"), none, (.cls ⟨(ofString "Sink"), [(.type "object")], [(.ref 123), (.type "object")], 122, (ofString "Sink"), true, [], [], false, none, false⟩), [none, none, (some (.str (ofString "Sink") 276)), (some (.str (ofString "Sink") 284)), (some (.builtin "object.__new__")), (some (.bool true))].toArray⟩),
 (135, ⟨(.type "tuple"), none, (.seq [(.int (0) 349)].toArray 0), [].toArray⟩),
 (141, cO "__init__" 350 "Cursor.__init__" 351 352 47 3 3 (.ref 136) (.ref 137) (.ref 138) (.ref 139) (.ref 140) 356 47 357),
 (142, fO (cmN 10 0) "Cursor.__init__" (.ref 135) "treepool.octets" 250 141),
 (148, cO "left" 359 "Cursor.left" 360 361 51 1 3 (.ref 143) (.ref 144) (.ref 145) (.ref 146) (.ref 147) 363 51 364),
 (149, fO (cmN 10 1) "Cursor.left" .none "treepool.octets" 250 148),
 (155, cO "take" 366 "Cursor.take" 367 368 54 2 3 (.ref 150) (.ref 151) (.ref 152) (.ref 153) (.ref 154) 372 54 373),
 (156, fO (cmN 10 2) "Cursor.take" .none "treepool.octets" 250 155),
 (162, cO "number" 375 "Cursor.number" 376 377 61 2 3 (.ref 157) (.ref 158) (.ref 159) (.ref 160) (.ref 161) 380 61 381),
 (163, fO (cmN 10 3) "Cursor.number" .none "treepool.octets" 250 162),
 (169, cO "text" 383 "Cursor.text" 384 385 64 1 3 (.ref 164) (.ref 165) (.ref 166) (.ref 167) (.ref 168) 387 64 388),
 (170, fO (cmN 10 4) "Cursor.text" .none "treepool.octets" 250 169),
 (172, ⟨(.type "dict"), none, (.dict [dE P "__module__" 344 (.str (ofString "treepool.octets") 250), dE P "__firstlineno__" 348 (.int (45) 347), dE P "__init__" 358 (.ref 142), dE P "left" 365 (.ref 149), dE P "take" 374 (.ref 156), dE P "number" 382 (.ref 163), dE P "text" 389 (.ref 170), dE P "__static_attributes__" 392 (.ref 171), dE P "__dict__" 394 (.ref 174), dE P "__weakref__" 396 (.ref 175), dE P "__doc__" 397 .none].toArray 4), [].toArray⟩),
 (173, ⟨(.type "type"), none, (.cls ⟨(ofString "Cursor"), [(.type "object")], [(.ref 173), (.type "object")], 172, (ofString "Cursor"), true, [], [], false, none, false⟩), [none, none, (some (.str (ofString "Cursor") 337)), (some (.str (ofString "Cursor") 345)), (some (.builtin "object.__new__")), (some (.bool true))].toArray⟩),
 (185, ⟨(.type "tuple"), none, (.seq [].toArray 0), [].toArray⟩),
 (186, ⟨(.type "tuple"), none, (.seq [(.ref 185), (.int (0) 426)].toArray 0), [].toArray⟩),
 (192, cO "__init__" 427 "Node.__init__" 428 429 74 5 3 (.ref 187) (.ref 188) (.ref 189) (.ref 190) (.ref 191) 435 74 436),
 (193, fO (cmN 17 0) "Node.__init__" (.ref 186) "treepool.config" 400 192),
 (197, cO "plain" 438 "Node.plain" 439 440 80 1 3 (.ref 194) (.ref 195) .none .none (.ref 196) 441 80 442),
 (198, fO (cmN 17 1) "Node.plain" .none "treepool.config" 400 197),
 (200, ⟨(.type "dict"), none, (.dict [dE P "__module__" 421 (.str (ofString "treepool.config") 400), dE P "__firstlineno__" 425 (.int (72) 424), dE P "__init__" 437 (.ref 193), dE P "plain" 443 (.ref 198), dE P "__static_attributes__" 448 (.ref 199), dE P "__dict__" 450 (.ref 202), dE P "__weakref__" 452 (.ref 203), dE P "__doc__" 453 .none].toArray 4), [].toArray⟩),
 (201, ⟨(.type "type"), none, (.cls ⟨(ofString "Node"), [(.type "object")], [(.ref 201), (.type "object")], 200, (ofString "Node"), true, [], [], false, none, false⟩), [none, none, (some (.str (ofString "Node") 414)), (some (.str (ofString "Node") 422)), (some (.builtin "object.__new__")), (some (.bool true))].toArray⟩),
 (213, ⟨(.type "tuple"), none, (.seq [(.int (1) 468)].toArray 0), [].toArray⟩),
 (219, cO "__init__" 469 "Config.__init__" 470 471 84 5 3 (.ref 214) (.ref 215) (.ref 216) (.ref 217) (.ref 218) 477 84 478),
 (220, fO (cmN 18 0) "Config.__init__" (.ref 213) "treepool.config" 400 219),
 (224, cO "plain" 480 "Config.plain" 481 482 90 1 3 (.ref 221) (.ref 222) .none .none (.ref 223) 483 90 484),
 (225, fO (cmN 18 1) "Config.plain" .none "treepool.config" 400 224),
 (227, ⟨(.type "dict"), none, (.dict [dE P "__module__" 463 (.str (ofString "treepool.config") 400), dE P "__firstlineno__" 467 (.int (82) 466), dE P "__init__" 479 (.ref 220), dE P "plain" 485 (.ref 225), dE P "__static_attributes__" 490 (.ref 226), dE P "__dict__" 492 (.ref 229), dE P "__weakref__" 494 (.ref 230), dE P "__doc__" 495 .none].toArray 4), [].toArray⟩),
 (228, ⟨(.type "type"), none, (.cls ⟨(ofString "Config"), [(.type "object")], [(.ref 228), (.type "object")], 227, (ofString "Config"), true, [], [], false, none, false⟩), [none, none, (some (.str (ofString "Config") 456)), (some (.str (ofString "Config") 464)), (some (.builtin "object.__new__")), (some (.bool true))].toArray⟩),
 (238, cO "sorts" 498 "sorts" 499 500 92 0 3 (.ref 233) (.ref 234) (.ref 235) (.ref 236) (.ref 237) 501 92 502),
 (239, fO (stN 19) "sorts" .none "treepool.config" 400 238),
 (245, cO "number_of_disks" 504 "number_of_disks" 505 506 94 2 3 (.ref 240) (.ref 241) (.ref 242) (.ref 243) (.ref 244) 511 94 512),
 (246, fO (stN 20) "number_of_disks" .none "treepool.config" 400 245),
 (252, cO "disk_node" 514 "disk_node" 515 516 99 1 3 (.ref 247) (.ref 248) (.ref 249) (.ref 250) (.ref 251) 518 99 519),
 (253, fO (stN 21) "disk_node" .none "treepool.config" 400 252),
 (257, cO "node_of" 521 "node_of" 522 523 105 1 3 (.ref 254) (.ref 255) .none .none (.ref 256) 524 105 525),
 (258, fO (stN 22) "node_of" .none "treepool.config" 400 257),
 (262, cO "plan_of" 527 "plan_of" 528 529 118 1 3 (.ref 259) (.ref 260) .none .none (.ref 261) 530 118 531),
 (263, fO (stN 23) "plan_of" .none "treepool.config" 400 262),
 (269, cO "disks_of" 533 "disks_of" 534 535 123 1 3 (.ref 264) (.ref 265) (.ref 266) (.ref 267) (.ref 268) 539 123 540),
 (270, fO (stN 24) "disks_of" .none "treepool.config" 400 269),
 (271, ⟨(.type "tuple"), none, (.seq [(.int (1) 542)].toArray 0), [].toArray⟩),
 (275, cO "config_of_plans" 543 "config_of_plans" 544 545 130 4 3 (.ref 272) (.ref 273) .none .none (.ref 274) 546 130 547),
 (276, fO (stN 25) "config_of_plans" (.ref 271) "treepool.config" 400 275),
 (282, cO "all_disks" 549 "all_disks" 550 551 138 1 3 (.ref 277) (.ref 278) (.ref 279) (.ref 280) (.ref 281) 555 138 556),
 (283, fO (stN 26) "all_disks" .none "treepool.config" 400 282),
 (289, cO "put_node" 558 "put_node" 559 560 143 2 3 (.ref 284) (.ref 285) (.ref 286) (.ref 287) (.ref 288) 564 143 565),
 (290, fO (stN 27) "put_node" .none "treepool.config" 400 289),
 (296, cO "config_octets" 567 "config_octets" 568 569 150 1 3 (.ref 291) (.ref 292) (.ref 293) (.ref 294) (.ref 295) 573 150 574),
 (297, fO (stN 28) "config_octets" .none "treepool.config" 400 296),
 (301, cO "read_node" 576 "read_node" 577 578 161 2 3 (.ref 298) (.ref 299) .none .none (.ref 300) 579 161 580),
 (302, fO (stN 29) "read_node" .none "treepool.config" 400 301),
 (306, cO "config_of" 582 "config_of" 583 584 171 1 3 (.ref 303) (.ref 304) .none .none (.ref 305) 585 171 586),
 (307, fO (stN 30) "config_of" .none "treepool.config" 400 306),
 (311, cO "_law_disks" 590 "_law_disks" 591 592 180 2 3 (.ref 308) (.ref 309) .none .none (.ref 310) 593 180 594),
 (312, fO (stN 32) "_law_disks" .none "law_np0189_01" 588 311),
 (318, cO "_law_plan" 596 "_law_plan" 597 598 182 1 3 (.ref 313) (.ref 314) (.ref 315) (.ref 316) (.ref 317) 603 182 604),
 (319, fO (stN 33) "_law_plan" .none "law_np0189_01" 588 318),
 (325, cO "_law_is_disk" 606 "_law_is_disk" 607 608 196 1 3 (.ref 320) (.ref 321) (.ref 322) (.ref 323) (.ref 324) 610 196 611),
 (326, fO (stN 34) "_law_is_disk" .none "law_np0189_01" 588 325),
 (330, cO "_law_guids" 613 "_law_guids" 614 615 200 1 3 (.ref 327) (.ref 328) .none .none (.ref 329) 616 200 617),
 (331, fO (stN 35) "_law_guids" .none "law_np0189_01" 588 330),
 (335, cO "_law_is_plan" 619 "_law_is_plan" 620 621 202 1 3 (.ref 332) (.ref 333) .none .none (.ref 334) 622 202 623),
 (336, fO (stN 36) "_law_is_plan" .none "law_np0189_01" 588 335),
 (340, cO "_law_number" 625 "_law_number" 626 627 213 2 3 (.ref 337) (.ref 338) .none .none (.ref 339) 628 213 629),
 (341, fO (stN 37) "_law_number" .none "law_np0189_01" 588 340),
 (345, cO "_law_digits" 631 "_law_digits" 632 633 216 2 3 (.ref 342) (.ref 343) .none .none (.ref 344) 634 216 635),
 (346, fO (stN 38) "_law_digits" .none "law_np0189_01" 588 345),
 (350, cO "_law_octets" 637 "_law_octets" 638 639 218 4 3 (.ref 347) (.ref 348) .none .none (.ref 349) 640 218 641),
 (351, fO (stN 39) "_law_octets" .none "law_np0189_01" 588 350),
 (355, cO "_law_take" 643 "_law_take" 644 645 230 3 3 (.ref 352) (.ref 353) .none .none (.ref 354) 646 230 647),
 (356, fO (stN 40) "_law_take" .none "law_np0189_01" 588 355),
 (360, cO "_law_node" 649 "_law_node" 650 651 235 3 3 (.ref 357) (.ref 358) .none .none (.ref 359) 652 235 653),
 (361, fO (stN 41) "_law_node" .none "law_np0189_01" 588 360),
 (365, cO "_law_read" 655 "_law_read" 656 657 244 1 3 (.ref 362) (.ref 363) .none .none (.ref 364) 658 244 659),
 (366, fO (stN 42) "_law_read" .none "law_np0189_01" 588 365),
 (372, cO "_law_told" 661 "_law_told" 662 663 257 1 3 (.ref 367) (.ref 368) (.ref 369) (.ref 370) (.ref 371) 665 257 666),
 (373, fO (stN 43) "_law_told" .none "law_np0189_01" 588 372),
 (379, cO "_law_made" 668 "_law_made" 669 670 262 4 3 (.ref 374) (.ref 375) (.ref 376) (.ref 377) (.ref 378) 675 262 676),
 (380, fO (stN 44) "_law_made" .none "law_np0189_01" 588 379),
 (386, cO "_law_is_read" 678 "_law_is_read" 679 680 267 3 3 (.ref 381) (.ref 382) (.ref 383) (.ref 384) (.ref 385) 687 267 688),
 (387, fO (stN 45) "_law_is_read" .none "law_np0189_01" 588 386),
 (391, cO "law" 690 "law" 691 692 274 1 3 (.ref 388) (.ref 389) .none .none (.ref 390) 693 274 694),
 (392, fO (stN 46) "law" .none "law_np0189_01" 588 391)]
noncomputable def theAs : List Addr := [3, 27, 28, 30, 31, 43, 44, 55, 56, 62, 63, 67, 68, 72, 73, 77, 78, 91, 92, 98, 99, 105, 106, 112, 113, 119, 120, 122, 123, 135, 141, 142, 148, 149, 155, 156, 162, 163, 169, 170, 172, 173, 185, 186, 192, 193, 197, 198, 200, 201, 213, 219, 220, 224, 225, 227, 228, 238, 239, 245, 246, 252, 253, 257, 258, 262, 263, 269, 270, 271, 275, 276, 282, 283, 289, 290, 296, 297, 301, 302, 306, 307, 311, 312, 318, 319, 325, 326, 330, 331, 335, 336, 340, 341, 345, 346, 350, 351, 355, 356, 360, 361, 365, 366, 372, 373, 379, 380, 386, 387, 391, 392]
noncomputable def theQ : Program := { theP with main := { theP.main with body := [stN 46] } }
noncomputable def looseN : List Str := List.map ofString ["PoolFault", "Corrupt", "Misused", "number_of", "octets_of", "text_octets", "octets_text", "Sink", "Cursor", "MAGIC", "VERSION", "MOST_PARITY", "MOST_CHILDREN", "NUMBERS", "Node", "Config", "sorts", "number_of_disks", "disk_node", "node_of", "plan_of", "disks_of", "config_of_plans", "all_disks", "put_node", "config_octets", "read_node", "config_of", "_law_disks", "_law_plan", "_law_is_disk", "_law_guids", "_law_is_plan", "_law_number", "_law_digits", "_law_octets", "_law_take", "_law_node", "_law_read", "_law_told", "_law_made", "_law_is_read"]
theorem asK (P : Params) : theAs = (theK P).map (·.1) := by kernel_rfl
theorem left : LeftO PySem.Challenge.rw_np0189_01.row.toRowW.prog theQ looseN (fun s => xlAt theQ [] s && PySem.W.recOk (RowW.records PySem.Challenge.rw_np0189_01.row.toRowW) s) (Hook.obs (kHook theK theAs asK)) (Hook.val (kHook theK theAs asK)) 5780 := by
 intro w
 kernel_rfl
section
abbrev PH := Addr → Option Obj
noncomputable def upd (g : PH) (a : Addr) (o : Obj) : PH := fun b => if b = a then some o else g b
structure Gd where
 prog : Program
 w : World
 K : Frag
 p : Program
 loose : List Str
 mean : ExcName → Option Value
 mg : Str → Option Value
 mb : Str → Option Value
 b₀ : Heap
 X : K.In b₀
 T : Top p loose mean mg mb b₀
 seer : b₀.NoSeer
 gtree : prog.given.tree = none
structure Cx where
 hin : Heap
 D : List Addr
 g₀ : PH
 base : Heap
 outer : List Env
 envF : Env
 L : Addr
noncomputable def frs (l : List Env) : List Addr := l.filterMap (·.frame)
structure CxOk (G : Gd) (cx : Cx) : Prop where
 b₀ : G.b₀.StaysIn cx.base
 base : cx.base.StaysIn cx.hin
 baseD : ∀ a ∈ cx.D, cx.base.get? a = none
 frames : cx.hin.FunFrames cx.base cx.outer
 frD : ∀ a ∈ frs cx.outer, a ∉ cx.D
 frame : cx.envF.frame = some cx.L
 locs : cx.envF.locals = cx.L
 kind : cx.envF.scope.kind = .function
 Lnew : cx.hin.get? cx.L = none
 globs : cx.envF.globals = mainGlobals
 above : cx.hin.objs.size ≤ cx.L
 noGen : cx.envF.scope.isGenerator = false
 noCo : cx.envF.scope.isCoroutine = false
 blt : cx.envF.builtins = builtinsNs
 hbase : ∀ b o, cx.hin.get? b = some o → b ∉ cx.D → b ∉ frs cx.outer → cx.base.get? b = some o
 g0 : ∀ a o, cx.g₀ a = some o → cx.base.get? a = some o
 gb : ∀ a o, G.b₀.get? a = some o → cx.g₀ a = some o
 cellNames : ∀ x, cx.envF.kindOf x = some .cell → (cx.envF.cells.lookup x).isSome = true
structure Inv (cx : Cx) (g : PH) (lv : List (Addr × Obj)) (h : Heap) : Prop where
 size : cx.hin.objs.size ≤ h.objs.size
 keep : ∀ b o, cx.hin.get? b = some o → b ∉ cx.D → (b ∉ frs cx.outer → h.get? b = some o) ∧ ∃ sl, h.get? b = some { o with slots := sl }
 old : ∀ a o, g a = some o → h.get? a = some o
 sub : ∀ a o, cx.g₀ a = some o → g a = some o
 fresh : ∀ a o, g a = some o → cx.g₀ a = some o ∨ (cx.hin.objs.size ≤ a ∨ a ∈ cx.D)
 cur : ∀ p ∈ lv, h.get? p.1 = some p.2
 own : ∀ p ∈ lv, g p.1 = none ∧ (cx.hin.objs.size ≤ p.1 ∨ p.1 ∈ cx.D)
 nd : (lv.map (·.1)).Nodup
section
variable {G : Gd} {cx : Cx} {g : PH} {lv : List (Addr × Obj)} {h h' : Heap}
theorem frs_base {l : List Env} {base hh : Heap} (F : hh.FunFrames base l) {a : Addr} (ha : a ∈ frs l) : base.get? a = none := (F.mem ha).1
theorem Inv.baseStays (C : CxOk G cx) (I : Inv cx g lv h) : cx.base.StaysIn h := fun b o e =>
 (I.keep b o (C.base b o e) (fun hd => by rw [C.baseD b hd] at e; cases e)).1 fun hf => by rw [frs_base C.frames hf] at e; cases e
theorem Inv.b0 (C : CxOk G cx) (I : Inv cx g lv h) : G.b₀.StaysIn h := fun b o e => I.baseStays C b o (C.b₀ b o e)
theorem Inv.kin (C : CxOk G cx) (I : Inv cx g lv h) : G.K.In h := G.X.keeps (I.b0 C)
theorem Inv.top (C : CxOk G cx) (I : Inv cx g lv h) : Top G.p G.loose G.mean G.mg G.mb h := G.T.keeps (I.b0 C)
theorem Inv.glt (I : Inv cx g lv h) {a : Addr} {o : Obj} (e : g a = some o) : a < h.objs.size := Heap.lt_size (I.old a o e)
theorem Inv.gnone (I : Inv cx g lv h) {a : Addr} (ha : h.objs.size ≤ a) : g a = none := by
 cases e : g a with
 | none => rfl
 | some o => exact absurd (I.glt e) (Nat.not_lt.mpr ha)
theorem Inv.hnone (I : Inv cx g lv h) {a : Addr} (ha : h.objs.size ≤ a) : cx.hin.objs.size ≤ a := Nat.le_trans I.size ha
theorem Inv.lvlt (I : Inv cx g lv h) {p : Addr × Obj} (hp : p ∈ lv) : p.1 < h.objs.size := Heap.lt_size (I.cur p hp)
theorem Inv.grow (I : Inv cx g lv h) (hk : ∀ b o, h.get? b = some o → h'.get? b = some o) (hs : h.objs.size ≤ h'.objs.size) : Inv cx g lv h' where
 size := Nat.le_trans I.size hs
 keep := fun b o e nd => let ⟨k1, sl, k2⟩ := I.keep b o e nd; ⟨fun nf => hk _ _ (k1 nf), sl, hk _ _ k2⟩
 old := fun a o e => hk _ _ (I.old a o e)
 sub := I.sub
 fresh := I.fresh
 cur := fun p hp => hk _ _ (I.cur p hp)
 own := I.own
 nd := I.nd
theorem Inv.push (I : Inv cx g lv h) {o : Obj} (hf : o.isFreed = false) : Inv cx g ((h.objs.size, o) :: lv) (h.push o) := by
 have J := I.grow (h' := h.push o) (fun b o' e => Heap.get?_push_of_some _ e) (by rw [Heap.size_push]; exact Nat.le_succ _)
 refine { J with cur := ?_, own := ?_, nd := ?_ }
 ·intro p hp
  rcases mem_cons.mp hp with rfl | hp
  ·exact Heap.get?_push_size _ hf
  ·exact J.cur p hp
 ·intro p hp
  rcases mem_cons.mp hp with rfl | hp
  ·exact ⟨I.gnone (Nat.le_refl _), .inl (I.hnone (Nat.le_refl _))⟩
  ·exact J.own p hp
 ·rw [map_cons, nodup_cons]
  refine ⟨fun hm => ?_, I.nd⟩
  obtain ⟨p, hp, e⟩ := mem_map.mp hm
  exact absurd (I.lvlt hp) (by rw [e]; exact Nat.lt_irrefl _)
theorem Inv.put {a : Addr} {o o' : Obj} {pre post : List (Addr × Obj)} (I : Inv cx g (pre ++ (a, o) :: post) h) (hs : Heap.SameBut a h h') (ho : h'.get? a = some o') :
  Inv cx g (pre ++ (a, o') :: post) h' := by
 have hm : (a, o) ∈ pre ++ (a, o) :: post := by simp
 have hown := I.own _ hm
 have nd := I.nd
 rw [map_append, map_cons] at nd
 have nd' := nodup_append.mp nd
 have ne1 : ∀ p ∈ pre, p.1 ≠ a := fun p hp => nd'.2.2 p.1 (mem_map_of_mem hp) a (by simp)
 have ne2 : ∀ p ∈ post, p.1 ≠ a := fun p hp e => (nodup_cons.mp nd'.2.1).1 (mem_map.mpr ⟨p, hp, e⟩)
 refine ⟨by rw [hs.1]; exact I.size, fun b ob e hb => ?_, fun b ob e => ?_, I.sub, I.fresh, fun p hp => ?_, fun p hp => ?_, ?_⟩
 ·have hba : b ≠ a := by
   rintro rfl
   rcases hown.2 with z | z
   ·exact absurd (Heap.lt_size e) (Nat.not_lt.mpr z)
   ·exact hb z
  obtain ⟨k1, sl, k2⟩ := I.keep b ob e hb
  exact ⟨fun nf => (hs.2 b hba).trans (k1 nf), sl, (hs.2 b hba).trans k2⟩
 ·have hba : b ≠ a := by rintro rfl; rw [hown.1] at e; cases e
  exact (hs.2 b hba).trans (I.old b ob e)
 ·rcases mem_append.mp hp with hp | hp
  ·exact (hs.2 _ (ne1 p hp)).trans (I.cur p (mem_append_left _ hp))
  ·rcases mem_cons.mp hp with rfl | hp
   ·exact ho
   ·exact (hs.2 _ (ne2 p hp)).trans (I.cur p (mem_append_right _ (.tail _ hp)))
 ·rcases mem_append.mp hp with hp | hp
  ·exact I.own p (mem_append_left _ hp)
  ·rcases mem_cons.mp hp with rfl | hp
   ·exact hown
   ·exact I.own p (mem_append_right _ (.tail _ hp))
 ·rw [map_append, map_cons]; exact nd
theorem Inv.update {a : Addr} {o : Obj} {pre post : List (Addr × Obj)} (I : Inv cx g (pre ++ (a, o) :: post) h) (f : Obj → Obj) (hf : (f o).isFreed = false) :
  Inv cx g (pre ++ (a, f o) :: post) (h.update a f) :=
 I.put (Heap.SameBut.update ..) (Heap.get?_update_self f (I.cur (a, o) (by simp)) hf)
theorem Inv.part {lv' : List (Addr × Obj)} (I : Inv cx g lv h) (hs : ∀ p ∈ lv', p ∈ lv) (nd : (lv'.map (·.1)).Nodup) : Inv cx g lv' h :=
 { I with cur := fun p hp => I.cur p (hs p hp), own := fun p hp => I.own p (hs p hp), nd := nd }
theorem Inv.perm {lv' : List (Addr × Obj)} (I : Inv cx g lv h) (hp : lv.Perm lv') : Inv cx g lv' h :=
 I.part (fun p h => hp.mem_iff.mpr h) ((hp.map (·.1)).nodup_iff.mp I.nd)
theorem Inv.subl {lv' : List (Addr × Obj)} (I : Inv cx g lv h) (hp : lv'.Sublist lv) : Inv cx g lv' h :=
 I.part (fun _ h => hp.subset h) ((hp.map (·.1)).nodup I.nd)
theorem Inv.freeze {a : Addr} {o : Obj} (I : Inv cx g ((a, o) :: lv) h) : Inv cx (upd g a o) lv h := by
 have hg := (I.own (a, o) (.head _)).1
 have nd := nodup_cons.mp (by have := I.nd; rwa [map_cons] at this)
 refine ⟨I.size, I.keep, fun b ob e => ?_, fun b ob e => ?_, fun b ob e => ?_, fun p hp => I.cur p (.tail _ hp), fun p hp => ⟨?_, (I.own p (.tail _ hp)).2⟩, nd.2⟩
 ·unfold Mine.upd at e
  split at e
  ·rename_i q; subst q; cases e; exact I.cur _ (.head _)
  ·exact I.old b ob e
 ·unfold Mine.upd
  have := I.sub b ob e
  split
  ·rename_i q; subst q; rw [hg] at this; cases this
  ·exact this
 ·unfold Mine.upd at e
  split at e
  ·rename_i q; subst q; exact .inr (I.own (_, o) (.head _)).2
  ·exact I.fresh b ob e
 ·unfold Mine.upd
  have hne : p.1 ≠ a := fun e => nd.1 (mem_map.mpr ⟨p, hp, e⟩)
  rw [if_neg hne]
  exact (I.own p (.tail _ hp)).1
theorem Inv.frozen (I : Inv cx g lv h) {o : Obj} (hf : o.isFreed = false) : Inv cx (Mine.upd g h.objs.size o) lv (h.push o) :=
 (I.push hf).freeze
end
noncomputable def Sub (g g' : PH) : Prop := ∀ a o, g a = some o → g' a = some o
theorem Sub.refl (g : PH) : Sub g g := fun _ _ e => e
theorem Sub.trans {g₁ g₂ g₃ : PH} (x : Sub g₁ g₂) (y : Sub g₂ g₃) : Sub g₁ g₃ := fun a o e => y a o (x a o e)
theorem Sub.upd {g : PH} {a : Addr} {o : Obj} (hn : g a = none) : Sub g (Mine.upd g a o) := fun b ob e => by
 unfold Mine.upd
 split
 ·rename_i q; subst q; rw [hn] at e; cases e
 ·exact e
theorem upd_self (g : PH) (a : Addr) (o : Obj) : Mine.upd g a o a = some o := by unfold Mine.upd; rw [if_pos rfl]
end
section
noncomputable def chk (b : Bool) (P : Prop) : Prop := match b with
 | true => P
 | false => False
theorem chk_e {b : Bool} {P R : Prop} (h : chk b P) (k : b = true → P → R) : R :=
 Bool.casesOn (motive := fun c => b = c → chk c P → R) b (fun _ h => False.elim h) (fun e h => k e h) rfl h
theorem chk_elim {b : Bool} {P : Prop} (h : chk b P) : b = true ∧ P := chk_e h fun e p => ⟨e, p⟩
noncomputable def brS (c : Bool) (A B : Prop) : Prop := match c with
 | true => A
 | false => B
theorem brS_t {c : Bool} {A B : Prop} (h : brS c A B) (e : c = true) : A := by subst e; exact h
theorem brS_f {c : Bool} {A B : Prop} (h : brS c A B) (e : c = false) : B := by subst e; exact h
noncomputable def brT (c : Bool) (A B : Prop) : Prop := match c with
 | true => A
 | false => B
theorem brT_ite {c : Bool} {A B : Prop} (h : brT c A B) : if c then A else B := by
 cases c
 ·exact h
 ·exact h
theorem br_t {c : Bool} {A B : Prop} (e : c = true) (h : A) : brT c A B := by subst e; exact h
theorem br_f {c : Bool} {A B : Prop} (e : c = false) (h : B) : brT c A B := by subst e; exact h
theorem br_i {c : Bool} {A B : Prop} (h1 : c = true → A) (h2 : c = false → B) : brT c A B :=
 Bool.casesOn (motive := fun d => c = d → brT c A B) c (fun e => br_f e (h2 e)) (fun e => br_t e (h1 e)) rfl
theorem br_dec {p : Prop} {_ : Decidable p} {A B : Prop} (h1 : p → A) (h2 : ¬ p → B) : brT (decide p) A B := br_i (fun e => h1 (of_decide_eq_true e)) (fun e => h2 (of_decide_eq_false e))
theorem br_ndec {p : Prop} {_ : Decidable p} {A B : Prop} (h1 : p → B) (h2 : ¬ p → A) : brT (!decide p) A B := br_i (fun e => h2 (by simpa using e)) (fun e => h1 (by simpa using e))
theorem chk_le {n m : Nat} {P : Prop} (h : chk (Nat.ble n m) P) : n ≤ m ∧ P := chk_e h fun e p => ⟨Nat.le_of_ble_eq_true e, p⟩
theorem chk_dec {p P : Prop} [Decidable p] (h : chk (decide p) P) : p ∧ P := chk_e h fun e q => ⟨of_decide_eq_true e, q⟩
theorem chk_not {b : Bool} {P : Prop} (h : chk (!b) P) : b = false ∧ P := chk_e h fun e q => ⟨by cases b with | true => exact Bool.noConfusion e | false => rfl, q⟩
noncomputable def oElim {α : Type} (o : Option α) (P : α → Prop) : Prop := match o with
 | some a => P a
 | none => False
theorem oE_e {α : Type} {o : Option α} {P : α → Prop} {R : Prop} (h : oElim o P) (k : ∀ a, o = some a → P a → R) : R :=
 Option.casesOn (motive := fun p => o = p → oElim p P → R) o (fun _ h => False.elim h) (fun a e h => k a e h) rfl h
theorem oElim_some {α : Type} {o : Option α} {P : α → Prop} (h : oElim o P) : ∃ a, o = some a ∧ P a := oE_e h fun a e p => ⟨a, e, p⟩
theorem none_some {α : Type} {a : α} {P : Prop} (h : none = some a) : P := nomatch h
theorem look_cons0 {β : Type} {x y : Str} {w : β} {l : List (Str × β)} : ((y, w) :: l).lookup x = if x == y then some w else l.lookup x := by rw [lookup_cons]; cases x == y <;> rfl
theorem hide {T : Prop} (h : ∀ P : Prop, (T → P) → P) : T := h T id
inductive V where
 | none
 | bool (b : Bool)
 | int (i : Int)
 | str (s : Str)
 | bytes (b : Array UInt8)
 | tup (l : List V)
 | lst (l : List V)
 | inst (c : Str) (ns : List Str) (vs : List V)
 | cel (j : Nat)
 | barr (b : Array UInt8)
 | rng (a b : Int)
 | set (n : Nat)
 | slc (lo hi st : Option Int)
 | ty (T : String)
inductive M where
 | lst (xs : List V)
 | inst (c : Str) (fs : List (Str × V))
 | barr (b : Array UInt8)
 | exc (c : Str) (b : Bool)
 | dead
structure DS where
 ls : List (Str × V)
 mu : List M
noncomputable def DSz (o : Obj) (k : Nat) : Prop := ∃ es n, o.data = .dict es n ∧ es.size ≤ k
noncomputable def NsO (o : Obj) (m : Str → Option Value) : Prop := ∃ es ep, o.data = .dict es ep ∧ StrKeys es ∧ ∀ n, nsFind es n = m n
theorem NsO.ns {o : Obj} {m : Str → Option Value} {h : Heap} {a : Addr} (x : NsO o m) (e : h.get? a = some o) : h.Ns a m := let ⟨es, ep, d, r⟩ := x; ⟨o, es, ep, e, d, r⟩
noncomputable def IsSeq (g : PH) (cls : String) (a : Addr) (vs : List Value) : Prop := ∃ n, g a = some { cls := .type cls, dict := .none, data := .seq vs.toArray n, slots := #[] }
noncomputable def NsHas (m : Str → Option Value) (ns : List Str) (vals : List Value) : Prop := ns.length = vals.length ∧ (∀ (i : Nat) (x : Str) (v : Value), ns[i]? = some x → vals[i]? = some v → m x = some v) ∧ ∀ x, x ∉ ns → m x = none
mutual
inductive VR (G : Gd) : PH → List Addr → V → Value → Prop
 | none {g ad} : VR G g ad .none .none
 | bool {g ad} (b : Bool) : VR G g ad (.bool b) (.bool b)
 | int {g ad} (i : Int) (t : Tok) : VR G g ad (.int i) (.int i t)
 | str {g ad} (s : Str) (t : Tok) : VR G g ad (.str s) (.str s t)
 | bytes {g ad} (b : Array UInt8) (t : Tok) : VR G g ad (.bytes b) (.bytes b t)
 | tup {g ad l a vs} : IsSeq g "tuple" a vs → VRs G g [] l vs → VR G g ad (.tup l) (.ref a)
 | lst {g ad l a vs} : IsSeq g "list" a vs → VRs G g [] l vs → VR G g ad (.lst l) (.ref a)
 | inst {g ad c ns vs a C dx od m vals} : nsIn G.K mainGlobals c = some (some (.ref C)) → g a = some (instObj C dx) → g dx = some od → od.cls = .type "dict" → od.slots = #[] → NsO od m → NsHas m ns vals → VRs G g [] vs vals → VR G g ad (.inst c ns vs) (.ref a)
 | cel {g ad j a} : ad[j]? = some a → VR G g ad (.cel j) (.ref a)
 | rng {g ad a b r t u v} : g r = some { cls := .type "range", dict := .none, data := .fields #[.int a t, .int b u, .int 1 v], slots := #[] } → VR G g ad (.rng a b) (.ref r)
 | set {g ad a o S} {n : Nat} : g a = some o → o.SetObjOf (intKind G.prog G.w) S n → (n : Int) < 2 ^ 63 → VR G g ad (.set n) (.ref a)
 | slc {g ad a l u k lo hi st} : g a = some { cls := .type "slice", dict := .none, data := .fields #[l, u, k], slots := #[] } → IsPart l lo → IsPart u hi → IsPart k st → VR G g ad (.slc lo hi st) (.ref a)
 | ty {g ad} (T : String) : VR G g ad (.ty T) (.type T)
inductive VRs (G : Gd) : PH → List Addr → List V → List Value → Prop
 | nil {g ad} : VRs G g ad [] []
 | cons {g ad v val l vals} : VR G g ad v val → VRs G g ad l vals → VRs G g ad (v :: l) (val :: vals)
end
section
variable {G : Gd} {g g' : PH} {ad ad' : List Addr}
theorem IsSeq.mono {cls a vs} (x : IsSeq g cls a vs) (s : Sub g g') : IsSeq g' cls a vs := let ⟨n, e⟩ := x; ⟨n, s _ _ e⟩
theorem pre_get {α : Type} {l l' : List α} (p : l <+: l') {j : Nat} {a : α} (e : l[j]? = some a) : l'[j]? = some a := by
 obtain ⟨t, rfl⟩ := p
 rw [List.getElem?_append_left (List.getElem?_eq_some_iff.mp e).1]; exact e
noncomputable def VRi (G : Gd) (g : PH) (ad : List Addr) (v : V) (val : Value) : Prop := match v with
 | .none => val = .none
 | .bool b => val = .bool b
 | .int i => ∃ t, val = .int i t
 | .str s => ∃ t, val = .str s t
 | .bytes b => ∃ t, val = .bytes b t
 | .tup l => ∃ a vs, val = .ref a ∧ IsSeq g "tuple" a vs ∧ VRs G g [] l vs
 | .lst l => ∃ a vs, val = .ref a ∧ IsSeq g "list" a vs ∧ VRs G g [] l vs
 | .inst c ns vs => ∃ a C dx od m vals, val = .ref a ∧ nsIn G.K mainGlobals c = some (some (.ref C)) ∧ g a = some (instObj C dx) ∧ g dx = some od ∧ od.cls = .type "dict" ∧ od.slots = #[] ∧ NsO od m ∧ NsHas m ns vals ∧ VRs G g [] vs vals
 | .cel j => ∃ a, val = .ref a ∧ ad[j]? = some a
 | .rng a b => ∃ r t u w, val = .ref r ∧ g r = some { cls := .type "range", dict := .none, data := .fields #[.int a t, .int b u, .int 1 w], slots := #[] }
 | .set n => ∃ a o S, val = .ref a ∧ g a = some o ∧ o.SetObjOf (intKind G.prog G.w) S n ∧ (n : Int) < 2 ^ 63
 | .slc lo hi st => ∃ a l u k, val = .ref a ∧ g a = some { cls := .type "slice", dict := .none, data := .fields #[l, u, k], slots := #[] } ∧ IsPart l lo ∧ IsPart u hi ∧ IsPart k st
 | .ty T => val = .type T
 | .barr _ => False
theorem VR.inv {v : V} {val : Value} (x : VR G g ad v val) : VRi G g ad v val :=
 VR.casesOn (motive_1 := fun ad v val _ => VRi G g ad v val) x rfl (fun _ => rfl) (fun _ t => ⟨t, rfl⟩) (fun _ t => ⟨t, rfl⟩) (fun _ t => ⟨t, rfl⟩) (fun q r => ⟨_, _, rfl, q, r⟩) (fun q r => ⟨_, _, rfl, q, r⟩)
  (fun a b c d e f k i => ⟨_, _, _, _, _, _, rfl, a, b, c, d, e, f, k, i⟩) (fun a => ⟨_, rfl, a⟩) (fun a => ⟨_, _, _, _, rfl, a⟩) (fun a b c => ⟨_, _, _, rfl, a, b, c⟩) (fun a b c d => ⟨_, _, _, _, rfl, a, b, c, d⟩) fun _ => rfl
@[elab_as_elim] theorem VR.int_e {i : Int} {a : Value} {P : Value → Prop} (x : VR G g ad (.int i) a) (k : ∀ t, P (.int i t)) : P a := by obtain ⟨t, e⟩ := x.inv; exact e ▸ k t
@[elab_as_elim] theorem VR.str_e {i : Str} {a : Value} {P : Value → Prop} (x : VR G g ad (.str i) a) (k : ∀ t, P (.str i t)) : P a := by obtain ⟨t, e⟩ := x.inv; exact e ▸ k t
@[elab_as_elim] theorem VR.bytes_e {i : Array UInt8} {a : Value} {P : Value → Prop} (x : VR G g ad (.bytes i) a) (k : ∀ t, P (.bytes i t)) : P a := by obtain ⟨t, e⟩ := x.inv; exact e ▸ k t
@[elab_as_elim] theorem VR.bool_e {b : Bool} {a : Value} {P : Value → Prop} (x : VR G g ad (.bool b) a) (k : P (.bool b)) : P a := Eq.symm x.inv ▸ k
@[elab_as_elim] theorem VR.none_e {a : Value} {P : Value → Prop} (x : VR G g ad .none a) (k : P .none) : P a := Eq.symm x.inv ▸ k
@[elab_as_elim] theorem VR.ty_e {T : String} {a : Value} {P : Value → Prop} (x : VR G g ad (.ty T) a) (k : P (.type T)) : P a := Eq.symm x.inv ▸ k
@[elab_as_elim] theorem VR.tup_e {l : List V} {a : Value} {P : Value → Prop} (x : VR G g ad (.tup l) a) (k : ∀ r vs, IsSeq g "tuple" r vs → VRs G g [] l vs → P (.ref r)) : P a := by obtain ⟨r, vs, e, q, y⟩ := x.inv; exact e ▸ k r vs q y
@[elab_as_elim] theorem VR.lst_e {l : List V} {a : Value} {P : Value → Prop} (x : VR G g ad (.lst l) a) (k : ∀ r vs, IsSeq g "list" r vs → VRs G g [] l vs → P (.ref r)) : P a := by obtain ⟨r, vs, e, q, y⟩ := x.inv; exact e ▸ k r vs q y
@[elab_as_elim] theorem VR.cel_e {j : Nat} {a : Value} {P : Value → Prop} (x : VR G g ad (.cel j) a) (k : ∀ r, ad[j]? = some r → P (.ref r)) : P a := by obtain ⟨r, e, q⟩ := x.inv; exact e ▸ k r q
@[elab_as_elim] theorem VR.slc_e {lo hi st : Option Int} {a : Value} {P : Value → Prop} (x : VR G g ad (.slc lo hi st) a) (k : ∀ r l u w, g r = some { cls := .type "slice", dict := .none, data := .fields #[l, u, w], slots := #[] } → IsPart l lo → IsPart u hi → IsPart w st → P (.ref r)) : P a := by
 obtain ⟨r, l, u, w, e, q1, q2, q3, q4⟩ := x.inv; exact e ▸ k r l u w q1 q2 q3 q4
@[elab_as_elim] theorem VR.inst_e {c : Str} {ns : List Str} {vs : List V} {v : Value} {P : Value → Prop} (x : VR G g ad (.inst c ns vs) v)
  (k : ∀ a C dx od m vals, nsIn G.K mainGlobals c = some (some (.ref C)) → g a = some (instObj C dx) → g dx = some od → od.cls = .type "dict" → od.slots = #[] → NsO od m → NsHas m ns vals → VRs G g [] vs vals → P (.ref a)) : P v := by
 obtain ⟨a, C, dx, od, m, vals, e, e1, e2, e3, e4, e5, n, q, r⟩ := x.inv; exact e ▸ k a C dx od m vals e1 e2 e3 e4 e5 n q r
noncomputable def VRsi (G : Gd) (g : PH) (ad : List Addr) (l : List V) (vals : List Value) : Prop := match l with
 | [] => vals = []
 | v :: l => ∃ a as, vals = a :: as ∧ VR G g ad v a ∧ VRs G g ad l as
theorem VRs.inv {l : List V} {vals : List Value} (x : VRs G g ad l vals) : VRsi G g ad l vals :=
 VRs.casesOn (motive_2 := fun ad l vals _ => VRsi G g ad l vals) x rfl fun a r => ⟨_, _, rfl, a, r⟩
@[elab_as_elim] theorem VRs.nil_e {as : List Value} {P : List Value → Prop} (x : VRs G g ad [] as) (k : P []) : P as := Eq.symm x.inv ▸ k
@[elab_as_elim] theorem VRs.cons_e {v : V} {l : List V} {as : List Value} {P : List Value → Prop} (x : VRs G g ad (v :: l) as) (k : ∀ a as, VR G g ad v a → VRs G g ad l as → P (a :: as)) : P as := by obtain ⟨a, as, e, q, y⟩ := x.inv; exact e ▸ k a as q y
@[elab_as_elim] theorem VRs.one_e {v : V} {as : List Value} {P : List Value → Prop} (x : VRs G g ad [v] as) (k : ∀ a, VR G g ad v a → P [a]) : P as := x.cons_e fun a as q y => y.nil_e (P := fun as => P (a :: as)) (k a q)
@[elab_as_elim] theorem VRs.two_e {v w : V} {as : List Value} {P : List Value → Prop} (x : VRs G g ad [v, w] as) (k : ∀ a b, VR G g ad v a → VR G g ad w b → P [a, b]) : P as := x.cons_e fun a as q y => y.one_e (P := fun as => P (a :: as)) fun b q' => k a b q q'
theorem VR.mono {v : V} {val : Value} (x : VR G g ad v val) (s : Sub g g') (p : ad <+: ad') : VR G g' ad' v val := by
 refine VR.rec (G := G) (motive_1 := fun ad v val _ => ∀ {ad'}, Sub g g' → ad <+: ad' → VR G g' ad' v val) (motive_2 := fun ad l vals _ => ∀ {ad'}, Sub g g' → ad <+: ad' → VRs G g' ad' l vals) ?_ ?_ ?_ ?_ ?_ ?_ ?_ ?_ ?_ ?_ ?_ ?_ ?_ ?_ ?_ x s p
 ·intros; exact .none
 ·intros; exact .bool _
 ·intros; exact .int _ _
 ·intros; exact .str _ _
 ·intros; exact .bytes _ _
 ·exact fun e _ ih _ s _ => .tup (e.mono s) (ih s (prefix_refl _))
 ·exact fun e _ ih _ s _ => .lst (e.mono s) (ih s (prefix_refl _))
 ·exact fun c e1 e2 e3 e4 n m _ ih _ s _ => .inst c (s _ _ e1) (s _ _ e2) e3 e4 n m (ih s (prefix_refl _))
 ·exact fun e _ _ p => .cel (pre_get p e)
 ·exact fun e _ s _ => .rng (s _ _ e)
 ·exact fun e c d _ s _ => .set (s _ _ e) c d
 ·exact fun e a b c _ s _ => .slc (s _ _ e) a b c
 ·intros; exact .ty _
 ·intros; exact .nil
 ·exact fun _ _ ih1 ih2 _ s p => .cons (ih1 s p) (ih2 s p)
theorem VRs.mono {l : List V} {vals : List Value} (x : VRs G g ad l vals) (s : Sub g g') (p : ad <+: ad') : VRs G g' ad' l vals := by
 induction l generalizing vals with
 | nil => exact x.nil_e .nil
 | cons v l ih => exact x.cons_e fun a as q y => .cons (q.mono s p) (ih y)
noncomputable def V.isBarr : V → Bool
 | .barr _ => true
 | _ => false
noncomputable def V.isCel : V → Bool
 | .cel _ => true
 | _ => false
theorem VR.close {v : V} {val : Value} (x : VR G g ad v val) : v.isCel = false → VR G g ad' v val :=
 VR.casesOn (motive_1 := fun ad v val _ => v.isCel = false → VR G g ad' v val) x (fun _ => .none) (fun b _ => .bool b) (fun i t _ => .int i t) (fun i t _ => .str i t) (fun i t _ => .bytes i t) (fun a b _ => .tup a b) (fun a b _ => .lst a b)
  (fun a b c d e f k i _ => .inst a b c d e f k i) (fun _ h => absurd h (fun z => Bool.noConfusion z)) (fun a _ => .rng a) (fun a b c _ => .set a b c) (fun a b c d _ => .slc a b c d) fun T _ => .ty T
theorem VR.lift {v : V} {val : Value} (x : VR G g [] v val) : VR G g ad v val := x.mono (fun _ _ e => e) (List.nil_prefix)
theorem VRs.lift {l : List V} {vals : List Value} (x : VRs G g [] l vals) : VRs G g ad l vals := x.mono (fun _ _ e => e) (List.nil_prefix)
theorem VRs.close {l : List V} {vals : List Value} (x : VRs G g ad l vals) (h : l.any V.isCel = false) : VRs G g ad' l vals := by
 induction l generalizing vals with
 | nil => exact x.nil_e .nil
 | cons v l ih => exact x.cons_e fun a as q y => .cons (q.close (Bool.or_eq_false_iff.mp h).1) (ih y (Bool.or_eq_false_iff.mp h).2)
theorem VRs.len {l : List V} {vals : List Value} (x : VRs G g ad l vals) : l.length = vals.length := by
 induction l generalizing vals with
 | nil => exact x.nil_e rfl
 | cons v l ih => exact x.cons_e fun a as q y => congrArg (· + 1) (ih y)
theorem VRs.get {l : List V} {vals : List Value} (x : VRs G g ad l vals) {i : Nat} {v : V} (e : l[i]? = some v) : ∃ val, vals[i]? = some val ∧ VR G g ad v val := by
 induction l generalizing vals i with
 | nil => exact nomatch e
 | cons w l ih => exact x.cons_e fun a as q y => Nat.casesOn (motive := fun i => (w :: l)[i]? = some v → ∃ val, (a :: as)[i]? = some val ∧ VR G g ad v val) i (fun e => ⟨a, rfl, Option.some.inj e ▸ q⟩) (fun i e => ih y e) e
theorem VRs.get' {l : List V} {vals : List Value} (x : VRs G g ad l vals) {i : Nat} {val : Value} (e : vals[i]? = some val) : ∃ v, l[i]? = some v ∧ VR G g ad v val := by
 have hi := (List.getElem?_eq_some_iff.mp e).1
 have e1 : l[i]? = some (l[i]'(by rw [x.len]; exact hi)) := List.getElem?_eq_getElem _
 obtain ⟨w, e2, q⟩ := x.get e1
 exact ⟨_, e1, Option.some.inj (e2.symm.trans e) ▸ q⟩
theorem VRs.append {l l' : List V} {vals vals' : List Value} (x : VRs G g ad l vals) (z : VRs G g ad l' vals') : VRs G g ad (l ++ l') (vals ++ vals') := by
 induction l generalizing vals with
 | nil => exact x.nil_e z
 | cons w l ih => exact x.cons_e fun a as q y => .cons q (ih y)
theorem VRs.take {l : List V} {vals : List Value} (x : VRs G g ad l vals) (n : Nat) : VRs G g ad (l.take n) (vals.take n) := by
 induction l generalizing vals n with
 | nil => exact x.nil_e (by rw [List.take_nil, List.take_nil]; exact .nil)
 | cons w l ih => exact x.cons_e fun a as q y => Nat.casesOn (motive := fun n => VRs G g ad ((w :: l).take n) ((a :: as).take n)) n .nil fun n => .cons q (ih y n)
theorem VRs.drop {l : List V} {vals : List Value} (x : VRs G g ad l vals) (n : Nat) : VRs G g ad (l.drop n) (vals.drop n) := by
 induction l generalizing vals n with
 | nil => exact x.nil_e (by rw [List.drop_nil, List.drop_nil]; exact .nil)
 | cons w l ih => exact x.cons_e fun a as q y => Nat.casesOn (motive := fun n => VRs G g ad ((w :: l).drop n) ((a :: as).drop n)) n (.cons q y) fun n => ih y n
theorem VRs.snoc {l : List V} {vals : List Value} {v : V} {val : Value} (x : VRs G g ad l vals) (y : VR G g ad v val) : VRs G g ad (l ++ [v]) (vals ++ [val]) := x.append (.cons y .nil)
theorem VRs.reverse {l : List V} {vals : List Value} (x : VRs G g ad l vals) : VRs G g ad l.reverse vals.reverse := by
 induction l generalizing vals with
 | nil => exact x.nil_e .nil
 | cons a l ih => exact x.cons_e fun b as q y => by rw [reverse_cons, reverse_cons]; exact (ih y).snoc q
end
inductive MR (G : Gd) (g : PH) (ad : List Addr) : M → Addr → List (Addr × Obj) → Prop
 | lst {xs a vs n} : VRs G g [] xs vs → MR G g ad (.lst xs) a [(a, { cls := .type "list", dict := .none, data := .seq vs.toArray n, slots := #[] })]
 | inst {c fs a C dx od m} : nsIn G.K mainGlobals c = some (some (.ref C)) → od.cls = .type "dict" → od.slots = #[] → od.dict = .none → NsO od m → DSz od fs.length →
   (∀ x v, fs.lookup x = some v → (∀ b, v ≠ .barr b) ∧ ∃ val, m x = some val ∧ VR G g [] v val) → (∀ x, fs.lookup x = .none → m x = .none) → MR G g ad (.inst c fs) a [(a, instObj C dx), (dx, od)]
 | sink {c fs a C dx od m x₀ b y} : nsIn G.K mainGlobals c = some (some (.ref C)) → od.cls = .type "dict" → od.slots = #[] → od.dict = .none → NsO od m →
   fs = [(x₀, V.barr b)] → m x₀ = some (.ref y) → (∀ x, x ≠ x₀ → m x = .none) → MR G g ad (.inst c fs) a [(a, instObj C dx), (dx, od), (y, { cls := .type "bytearray", dict := .none, data := .bytearray b 0, slots := #[] })]
 | barr {b a} : MR G g ad (.barr b) a [(a, { cls := .type "bytearray", dict := .none, data := .bytearray b 0, slots := #[] })]
 | exc {c b a C a0 dc} : nsIn G.K mainGlobals c = some (some (.ref C)) → (b = false → dc = none) → MR G g ad (.exc c b) a [(a, { cls := .ref C, dict := dc, data := .fields #[.ref a0, .none, .none, .none, .bool false, .none], slots := #[] })]
 | dead {a} : MR G g ad .dead a []
theorem MR.mono {G : Gd} {g g' : PH} {ad ad' : List Addr} {m : M} {a : Addr} {l : List (Addr × Obj)} (x : MR G g ad m a l) (s : Sub g g') (p : ad <+: ad') : MR G g' ad' m a l :=
 MR.casesOn (motive := fun m a l _ => MR G g' ad' m a l) x (fun r => .lst (r.mono s (prefix_refl _)))
  (fun c e1 e2 e3 n z f f' => .inst c e1 e2 e3 n z (fun x v e => ⟨(f x v e).1, Exists.elim (f x v e).2 fun val q => ⟨val, q.1, q.2.mono s (prefix_refl _)⟩⟩) f')
  (fun c e1 e2 e3 n f1 f2 f3 => .sink c e1 e2 e3 n f1 f2 f3) .barr (fun a b => .exc a b) .dead
noncomputable def MRi (G : Gd) (g : PH) (m : M) (a : Addr) (l : List (Addr × Obj)) : Prop := match m with
 | .lst xs => ∃ vs n, l = [(a, { cls := .type "list", dict := .none, data := .seq vs.toArray n, slots := #[] })] ∧ VRs G g [] xs vs
 | .inst c fs => (∃ C dx od m, l = [(a, instObj C dx), (dx, od)] ∧ nsIn G.K mainGlobals c = some (some (.ref C)) ∧ od.cls = .type "dict" ∧ od.slots = #[] ∧ od.dict = .none ∧ NsO od m ∧ DSz od fs.length ∧
   (∀ x v, fs.lookup x = some v → (∀ b, v ≠ .barr b) ∧ ∃ val, m x = some val ∧ VR G g [] v val) ∧ (∀ x, fs.lookup x = .none → m x = .none)) ∨
  (∃ C dx od m x₀ b y, l = [(a, instObj C dx), (dx, od), (y, { cls := .type "bytearray", dict := .none, data := .bytearray b 0, slots := #[] })] ∧ nsIn G.K mainGlobals c = some (some (.ref C)) ∧ od.cls = .type "dict" ∧ od.slots = #[] ∧ od.dict = .none ∧ NsO od m ∧
   fs = [(x₀, V.barr b)] ∧ m x₀ = some (.ref y) ∧ (∀ x, x ≠ x₀ → m x = .none))
 | .barr b => l = [(a, { cls := .type "bytearray", dict := .none, data := .bytearray b 0, slots := #[] })]
 | .exc c b => ∃ C a0 dc, l = [(a, { cls := .ref C, dict := dc, data := .fields #[.ref a0, .none, .none, .none, .bool false, .none], slots := #[] })] ∧ nsIn G.K mainGlobals c = some (some (.ref C)) ∧ (b = false → dc = none)
 | .dead => l = []
theorem MR.inv {G : Gd} {g : PH} {ad : List Addr} {m : M} {a : Addr} {l : List (Addr × Obj)} (x : MR G g ad m a l) : MRi G g m a l :=
 MR.casesOn (motive := fun m a l _ => MRi G g m a l) x (fun r => ⟨_, _, rfl, r⟩) (fun c e1 e2 e3 n z f f' => .inl ⟨_, _, _, _, rfl, c, e1, e2, e3, n, z, f, f'⟩) (fun c e1 e2 e3 n f1 f2 f3 => .inr ⟨_, _, _, _, _, _, _, rfl, c, e1, e2, e3, n, f1, f2, f3⟩)
  rfl (fun a b => ⟨_, _, _, rfl, a, b⟩) rfl
theorem MR.inst_e {G : Gd} {g : PH} {ad : List Addr} {c : Str} {fs : List (Str × V)} {a : Addr} {l : List (Addr × Obj)} {P : Prop} (x : MR G g ad (.inst c fs) a l)
  (k1 : ∀ C dx od m, l = [(a, instObj C dx), (dx, od)] → nsIn G.K mainGlobals c = some (some (.ref C)) → od.cls = .type "dict" → od.slots = #[] → od.dict = .none → NsO od m → DSz od fs.length →
   (∀ x v, fs.lookup x = some v → (∀ b, v ≠ .barr b) ∧ ∃ val, m x = some val ∧ VR G g [] v val) → (∀ x, fs.lookup x = .none → m x = .none) → P)
  (k2 : ∀ C dx od m x₀ b y, l = [(a, instObj C dx), (dx, od), (y, { cls := .type "bytearray", dict := .none, data := .bytearray b 0, slots := #[] })] → nsIn G.K mainGlobals c = some (some (.ref C)) → od.cls = .type "dict" → od.slots = #[] → od.dict = .none → NsO od m →
   fs = [(x₀, V.barr b)] → m x₀ = some (.ref y) → (∀ x, x ≠ x₀ → m x = .none) → P) : P := by
 rcases x.inv with ⟨C, dx, od, m, e, e1, e2, e3, e4, n, z, f, f'⟩ | ⟨C, dx, od, m, x₀, b, y, e, e1, e2, e3, e4, n, f1, f2, f3⟩
 ·exact k1 C dx od m e e1 e2 e3 e4 n z f f'
 ·exact k2 C dx od m x₀ b y e e1 e2 e3 e4 n f1 f2 f3
structure MusOk (G : Gd) (g : PH) (ad : List Addr) (mu : List M) (fp : List (List (Addr × Obj))) : Prop where
 len : fp.length = mu.length
 lad : ad.length = mu.length
 rel : ∀ (j : Nat) (m : M) (a : Addr) (l : List (Addr × Obj)), mu[j]? = some m → ad[j]? = some a → fp[j]? = some l → MR G g ad m a l
theorem MusOk.mono {G : Gd} {g g' : PH} {ad : List Addr} {mu fp} (x : MusOk G g ad mu fp) (s : Sub g g') : MusOk G g' ad mu fp :=
 ⟨x.len, x.lad, fun j m a l e1 e2 e3 => (x.rel j m a l e1 e2 e3).mono s (prefix_refl _)⟩
structure LocOk (G : Gd) (cx : Cx) (g : PH) (ad : List Addr) (oL : Obj) (cs : List (Addr × Obj)) (ls : List (Str × V)) : Prop where
 cells : cs.map (·.1) = cx.envF.cells.map (·.2)
 celld : ∀ p ∈ cs, ∃ v, p.2.data = .cell v
 ns : ∃ m, NsO oL m ∧ ∀ x v, ls.lookup x = some v → cx.envF.kindOf x = some .local → ∃ val, m x = some val ∧ VR G g ad v val
 cel : ∀ x v, ls.lookup x = some v → cx.envF.kindOf x = some .cell → ∃ c o val, cx.envF.cells.lookup x = some c ∧ (c, o) ∈ cs ∧ o.data = .cell (some val) ∧ VR G g ad v val
theorem LocOk.mono {G : Gd} {cx : Cx} {g g' : PH} {ad ad' : List Addr} {oL cs ls} (x : LocOk G cx g ad oL cs ls) (s : Sub g g') (p : ad <+: ad') : LocOk G cx g' ad' oL cs ls :=
 ⟨x.cells, x.celld, let ⟨m, a, b⟩ := x.ns; ⟨m, a, fun y v e k => let ⟨val, c, d⟩ := b y v e k; ⟨val, c, d.mono s p⟩⟩,
  fun y v e k => let ⟨c, o, val, a, b, d, r⟩ := x.cel y v e k; ⟨c, o, val, a, b, d, r.mono s p⟩⟩
noncomputable def Rel (G : Gd) (cx : Cx) (ex : List (Addr × Obj)) (g : PH) (ad : List Addr) (st : DS) (h : Heap) : Prop :=
 ∃ oL cs fp, Inv cx g ((cx.L, oL) :: (cs ++ (ex ++ fp.flatten))) h ∧ LocOk G cx g ad oL cs st.ls ∧ MusOk G g ad st.mu fp
theorem Rel.e {G : Gd} {cx : Cx} {ex : List (Addr × Obj)} {g : PH} {ad : List Addr} {st : DS} {h : Heap} {P : Prop} (R : Rel G cx ex g ad st h)
  (k : ∀ oL cs fp, Inv cx g ((cx.L, oL) :: (cs ++ (ex ++ fp.flatten))) h → LocOk G cx g ad oL cs st.ls → MusOk G g ad st.mu fp → P) : P := by
 obtain ⟨oL, cs, fp, I, L, M⟩ := R; exact k oL cs fp I L M
noncomputable def UpF (cx : Cx) (h : Heap) : Prop := ∀ b o, b ∈ frs cx.outer → cx.hin.get? b = some o → ∃ sl, h.get? b = some { o with slots := sl }
noncomputable def FreshExc (h : Heap) (e : Addr) (C : Addr) : Prop := ∃ oe vs, h.get? e = some oe ∧ oe.cls = .ref C ∧ oe.data = .fields vs ∧ vs[1]? = some .none
noncomputable def TracedFl (h base : Heap) (e : Addr) (C : Addr) (fl : Value) : Prop :=
 ∃ oe vs T oT ts, h.get? e = some oe ∧ oe.cls = .ref C ∧ oe.data = .fields vs ∧ vs[1]? = some (.ref T) ∧ base.get? T = none ∧ T ≠ e ∧ h.get? T = some oT ∧ oT.data = .fields ts ∧ ts[3]? = some fl
structure ExcIn (G : Gd) (cx : Cx) (ex : List (Addr × Obj)) (c : Str) (e : Addr) (h : Heap) : Prop where
 stays : cx.base.StaysIn h
 new : cx.base.get? e = none
 frames : h.FunFrames cx.base (cx.envF :: cx.outer)
 up : UpF cx h
 exs : ∀ p ∈ ex, (∃ m, NsO p.2 m) → ∃ m, h.Ns p.1 m
 exc : ∃ C, nsIn G.K mainGlobals c = some (some (.ref C)) ∧ (FreshExc h e C ∨ ∃ fl, TracedFl h cx.base e C fl)
structure AOk (cx : Cx) (A : Around) (r : Nat) : Prop where
 frames : A.frames = some (cx.envF :: cx.outer)
 handled : A.handled = none
 guards : A.guards = some []
 depth : A.depth + 20 * r ≤ 800
 units : A.units + 100 * r ≤ 9800
noncomputable def W (G : Gd) (cx : Cx) (A : Around) (ex : List (Addr × Obj)) {α : Type} (t : Sem α) (Q : α → PH → List Addr → DS → Prop) (X : Str → Prop) (g : PH) (ad : List Addr) (st : DS) : Prop :=
 ∀ (s : Shared) (Q' : α → Shared → Prop) (E' : Value → Shared → Prop), Rel G cx ex g ad st s.heap → s.gens = #[] →
  (∀ a g' ad' st' s', Sub g g' → ad <+: ad' → Q a g' ad' st' → Rel G cx ex g' ad' st' s'.heap → s'.gens = #[] → s'.os = s.os → Q' a s') →
  (∀ c e s', X c → ExcIn G cx ex c e s'.heap → s'.gens = #[] → s'.os = s.os → E' (.ref e) s') →
  wpAny (model G.prog G.w) A t Q' E' s
section
variable {G : Gd} {cx : Cx} {A : Around} {ex : List (Addr × Obj)} {α β : Type} {X : Str → Prop} {g : PH} {ad : List Addr} {st : DS}
theorem W.pure {a : α} {Q : α → PH → List Addr → DS → Prop} (h : Q a g ad st) : W G cx A ex (Pure.pure a) Q X g ad st := fun s Q' E' R hg hq _ => wpAny_pure (hq a g ad st s (Sub.refl g) (prefix_refl _) h R hg rfl)
theorem W.bind {m : Sem α} {f : α → Sem β} {Q : β → PH → List Addr → DS → Prop} (h : W G cx A ex m (fun a g' ad' st' => W G cx A ex (f a) Q X g' ad' st') X g ad st) : W G cx A ex (m >>= f) Q X g ad st :=
 fun s Q' E' R hg hq he => wpAny_bind (h s _ _ R hg (fun a g' ad' st' s' s1 p1 w R' hg' ho => w s' _ _ R' hg' (fun b g₂ ad₂ st₂ s₂ s2 p2 q R₂ hg₂ ho₂ => hq b g₂ ad₂ st₂ s₂ (s1.trans s2) (p1.trans p2) q R₂ hg₂ (ho₂.trans ho))
  fun c e s₂ x y hg₂ ho₂ => he c e s₂ x y hg₂ (ho₂.trans ho)) fun c e s' x y hg' ho => he c e s' x y hg' ho)
theorem W.mono {t : Sem α} {Q Q₂ : α → PH → List Addr → DS → Prop} {X₂ : Str → Prop} (h : W G cx A ex t Q X g ad st) (hq : ∀ a g' ad' st', Sub g g' → ad <+: ad' → Q a g' ad' st' → Q₂ a g' ad' st') (hx : ∀ c, X c → X₂ c) : W G cx A ex t Q₂ X₂ g ad st :=
 fun s Q' E' R hg k he => h s Q' E' R hg (fun a g' ad' st' s' s1 p1 q R' => k a g' ad' st' s' s1 p1 (hq a g' ad' st' s1 p1 q) R') fun c e s' x => he c e s' (hx c x)
theorem W.eq {t t' : Sem α} {Q : α → PH → List Addr → DS → Prop} (e : t = t') (h : W G cx A ex t' Q X g ad st) : W G cx A ex t Q X g ad st := e ▸ h
theorem W.map {m : Sem α} {f : α → β} {Q : β → PH → List Addr → DS → Prop} (h : W G cx A ex m (fun a => Q (f a)) X g ad st) : W G cx A ex (f <$> m) Q X g ad st :=
 fun s Q' E' R hg hq he => wpAny_map (h s _ _ R hg (fun a g' ad' st' s' s1 p1 q R' hg' ho => hq (f a) g' ad' st' s' s1 p1 q R' hg' ho) he)
theorem W.ro {t : Sem α} {Q : α → PH → List Addr → DS → Prop} (P : α → Prop)
  (h : ∀ (s : Shared) (Q' : α → Shared → Prop) (E' : Value → Shared → Prop), Rel G cx ex g ad st s.heap → (∀ a tk, P a → Q' a { s with toks := tk }) → wpAny (model G.prog G.w) A t Q' E' s)
  (hq : ∀ a, P a → Q a g ad st) : W G cx A ex t Q X g ad st := fun s Q' E' R hg k _ => h s Q' E' R fun a tk p => k a g ad st _ (Sub.refl g) (prefix_refl _) (hq a p) R hg rfl
theorem W.standAt {pos : Pos} {Q : Unit → PH → List Addr → DS → Prop} (h : Q () g ad st) : W G cx A ex (PySem.standAt pos) Q X g ad st := fun s Q' E' R hg k _ => wpAny_standAt (k () g ad st s (Sub.refl g) (prefix_refl _) h R hg rfl)
theorem W.holding {vs : List Value} {m : Sem α} {Q : α → PH → List Addr → DS → Prop} (h : W G cx A ex m Q X g ad st) : W G cx A ex (PySem.holding vs m) Q X g ad st := fun s Q' E' R hg k he => wpAny_holding (h s Q' E' R hg k he)
theorem W.at {t : Sem α} {Q : α → PH → List Addr → DS → Prop} {st' : DS} (h : W G cx A ex t Q X g ad st') (hr : ∀ hh, Rel G cx ex g ad st hh → Rel G cx ex g ad st' hh) : W G cx A ex t Q X g ad st :=
 fun s Q' E' R hg k he => h s Q' E' (hr _ R) hg k he
end
end
variable {G : Gd} {cx : Cx} {g g' g₁ : PH} {h h' : Heap} {ad ad' ad₁ : List Addr} {A : Around} {ex ex' : List (Addr × Obj)} {X : Str → Prop} {st st' : DS} {r : Nat} {env : Env} {s : Shared} {E : Value → Shared → Prop} {prog : Program} {w : World} {N : DS → Prop} {Rt : V → Option DS → Prop} {P : Params} {Q : V → Option M → Prop} {vs : List V} {m : Option M}
section
section
variable {α β : Type}
theorem Rel.step (R : Rel G cx ex g ad st h) (S : Sub g g') (T : ∀ lv, Inv cx g lv h → Inv cx g' lv h') : Rel G cx ex g' ad st h' :=
 R.e fun oL cs fp I L M => ⟨oL, cs, fp, T _ I, L.mono S (prefix_refl _), M.mono S⟩
theorem Rel.inv (R : Rel G cx ex g ad st h) : ∃ lv, Inv cx g lv h := R.e fun _ _ _ I _ _ => ⟨_, I⟩
theorem Rel.ei {P : Prop} (R : Rel G cx ex g ad st h) (k : ∀ lv, Inv cx g lv h → P) : P := R.e fun _ _ _ I _ _ => k _ I
theorem Rel.old (R : Rel G cx ex g ad st h) {a : Addr} {o : Obj} (e : g a = some o) : h.get? a = some o := R.ei fun _ I => I.old a o e
theorem Rel.kin (C : CxOk G cx) (R : Rel G cx ex g ad st h) : G.K.In h := R.ei fun _ I => I.kin C
theorem Rel.top (C : CxOk G cx) (R : Rel G cx ex g ad st h) : Top G.p G.loose G.mean G.mg G.mb h := R.ei fun _ I => I.top C
theorem Rel.gnone (R : Rel G cx ex g ad st h) : g h.objs.size = none := R.ei fun _ I => I.gnone (Nat.le_refl _)
theorem Rel.frozen (R : Rel G cx ex g ad st h) {o : Obj} (hf : o.isFreed = false) : Sub g (upd g h.objs.size o) ∧ Rel G cx ex (upd g h.objs.size o) ad st (h.push o) :=
 ⟨Sub.upd R.gnone, R.step (Sub.upd R.gnone) fun _ I => I.frozen hf⟩
noncomputable def asLst (mu : List M) : V → Option (List V)
 | .lst l => some l
 | .cel j => match mu[j]? with
  | some (.lst xs) => some xs
  | _ => none
 | _ => none
theorem asLst_inv {mu : List M} {v : V} {xs : List V} (e : asLst mu v = some xs) : v = .lst xs ∨ ∃ j, v = .cel j ∧ mu[j]? = some (.lst xs) := by
 cases v with
 | lst l => exact .inl (congrArg V.lst (Option.some.inj e))
 | cel j =>
  refine .inr ⟨j, rfl, ?_⟩
  have e : (match mu[j]? with | some (.lst xs) => some xs | _ => none) = some xs := e
  generalize mu[j]? = m at e
  cases m with
  | none => exact none_some e
  | some m => cases m with
   | lst l => exact congrArg (fun l => some (M.lst l)) (Option.some.inj e)
   | _ => exact none_some e
 | _ => exact none_some e
theorem MusOk.at {mu fp} (x : MusOk G g ad mu fp) {j : Nat} {m : M} (e : mu[j]? = some m) : ∃ a l, ad[j]? = some a ∧ fp[j]? = some l ∧ MR G g ad m a l := by
 have hj := (List.getElem?_eq_some_iff.mp e).1
 have h1 : ad[j]? = some (ad[j]'(by rw [x.lad]; exact hj)) := List.getElem?_eq_getElem _
 have h2 : fp[j]? = some (fp[j]'(by rw [x.len]; exact hj)) := List.getElem?_eq_getElem _
 exact ⟨_, _, h1, h2, x.rel j m _ _ e h1 h2⟩
theorem mem_flat {fp : List (List (Addr × Obj))} {j : Nat} {l : List (Addr × Obj)} (e : fp[j]? = some l) {p : Addr × Obj} (hp : p ∈ l) : p ∈ fp.flatten :=
 List.mem_flatten.mpr ⟨l, List.mem_of_getElem? e, hp⟩
theorem lv_fp {cx : Cx} {oL : Obj} {cs ex : List (Addr × Obj)} {fp : List (List (Addr × Obj))} {p : Addr × Obj} (hp : p ∈ fp.flatten) : p ∈ (cx.L, oL) :: (cs ++ (ex ++ fp.flatten)) :=
 .tail _ (mem_append_right _ (mem_append_right _ hp))
theorem lv_ex {cx : Cx} {oL : Obj} {cs ex : List (Addr × Obj)} {fp : List (List (Addr × Obj))} {p : Addr × Obj} (hp : p ∈ ex) : p ∈ (cx.L, oL) :: (cs ++ (ex ++ fp.flatten)) :=
 .tail _ (mem_append_right _ (mem_append_left _ hp))
theorem lv_cs {cx : Cx} {oL : Obj} {cs ex : List (Addr × Obj)} {fp : List (List (Addr × Obj))} {p : Addr × Obj} (hp : p ∈ cs) : p ∈ (cx.L, oL) :: (cs ++ (ex ++ fp.flatten)) :=
 .tail _ (mem_append_left _ hp)
theorem IsSeq.list {a : Addr} {vs : List Value} (R : Rel G cx ex g ad st h) (x : IsSeq g "list" a vs) : h.IsList a vs.toArray := let ⟨n, e⟩ := x; ⟨_, R.old e, rfl, n, rfl⟩
theorem IsSeq.tuple {a : Addr} {vs : List Value} (R : Rel G cx ex g ad st h) (x : IsSeq g "tuple" a vs) : IsTup h a vs.toArray := let ⟨n, e⟩ := x; ⟨_, R.old e, rfl, n, rfl⟩
theorem Rel.listO (R : Rel G cx ex g ad st h) {j : Nat} {xs : List V} {a : Addr} (hm : st.mu[j]? = some (.lst xs)) (ha : ad[j]? = some a) : ∃ vs n, h.get? a = some { cls := .type "list", dict := .none, data := .seq vs.toArray n, slots := #[] } ∧ VRs G g [] xs vs :=
 R.e fun oL cs fp I L MO => by
  obtain ⟨a', l, h1, h2, mr⟩ := MO.at hm
  obtain ⟨vs, n, e, r⟩ := mr.inv
  have ea := Option.some.inj (h1.symm.trans ha)
  subst ea e
  exact ⟨vs, n, I.cur _ (lv_fp (mem_flat h2 (.head _))), r⟩
theorem Rel.lstAt (R : Rel G cx ex g ad st h) {j : Nat} {xs : List V} {a : Addr} (hm : st.mu[j]? = some (.lst xs)) (ha : ad[j]? = some a) : ∃ vs, h.IsList a vs.toArray ∧ VRs G g [] xs vs :=
 let ⟨vs, n, e, r⟩ := R.listO hm ha; ⟨vs, ⟨_, e, rfl, n, rfl⟩, r⟩
theorem Rel.isList (R : Rel G cx ex g ad st h) {v : V} {a : Value} {xs : List V} (r : VR G g ad v a) (e : asLst st.mu v = some xs) : ∃ l vs, a = .ref l ∧ h.IsList l vs.toArray ∧ VRs G g [] xs vs := by
 rcases asLst_inv e with e | ⟨j, e, hm⟩
 ·subst e; exact r.lst_e fun a vs q y => ⟨a, vs, rfl, q.list R, y⟩
 ·subst e; exact r.cel_e fun a ha => Exists.elim (R.lstAt hm ha) fun vs q => ⟨a, vs, rfl, q⟩
@[elab_as_elim] theorem Rel.list_e (R : Rel G cx ex g ad st h) {v : V} {a : Value} {xs : List V} {P : Value → Prop} (r : VR G g ad v a) (e : asLst st.mu v = some xs) (k : ∀ l vs, h.IsList l vs.toArray → VRs G g [] xs vs → P (.ref l)) : P a := by
 obtain ⟨l, vs, q, hl, rs⟩ := R.isList r e; exact q ▸ k l vs hl rs
theorem Rel.isTup (R : Rel G cx ex g ad st h) {l : List V} {a : Value} (r : VR G g ad (.tup l) a) : ∃ t vs, a = .ref t ∧ IsTup h t vs.toArray ∧ VRs G g [] l vs :=
 r.tup_e fun a vs q y => ⟨a, vs, rfl, q.tuple R, y⟩
@[elab_as_elim] theorem Rel.tup_e (R : Rel G cx ex g ad st h) {l : List V} {a : Value} {P : Value → Prop} (r : VR G g ad (.tup l) a) (k : ∀ t vs, IsTup h t vs.toArray → VRs G g [] l vs → P (.ref t)) : P a :=
 r.tup_e fun a vs q y => k a vs (q.tuple R) y
noncomputable def WV (G : Gd) (cx : Cx) (A : Around) (ex : List (Addr × Obj)) (t : Sem Value) (Q : V → DS → Prop) (X : Str → Prop) (g : PH) (ad : List Addr) (st : DS) : Prop :=
 W G cx A ex t (fun a g' ad' st' => ∃ v, VR G g' ad' v a ∧ Q v st') X g ad st
theorem WV.bind {m : Sem Value} {f : Value → Sem β} {P : V → DS → Prop} {Q : β → PH → List Addr → DS → Prop} (h : WV G cx A ex m P X g ad st)
  (k : ∀ a v g' ad' st', Sub g g' → ad <+: ad' → VR G g' ad' v a → P v st' → W G cx A ex (f a) Q X g' ad' st') : W G cx A ex (m >>= f) Q X g ad st :=
 W.bind (W.mono h (fun a g' ad' st' s1 p1 ⟨v, r, p⟩ => k a v g' ad' st' s1 p1 r p) fun _ x => x)
theorem W.operate {vs : List Value} {m : Sem Value} {Q : Value → PH → List Addr → DS → Prop} (h : W G cx A ex m Q X g ad st) : W G cx A ex (operate vs m) Q X g ad st :=
 fun s Q' E' R hg k he => wpAny_operateT (h s Q' E' R hg k he)
theorem W.at_ {pos : Pos} {t : Sem α} {Q : α → PH → List Addr → DS → Prop} (h : W G cx A ex t Q X g ad st) : W G cx A ex (PySem.standAt pos >>= fun _ => t) Q X g ad st := W.bind (W.standAt h)
theorem WV.ro {t : Sem Value} {Q : V → DS → Prop} (v : V) (h : ∀ (s : Shared) (Q' : Value → Shared → Prop) (E' : Value → Shared → Prop), Rel G cx ex g ad st s.heap → (∀ a tk, VR G g ad v a → Q' a { s with toks := tk }) → wpAny (model G.prog G.w) A t Q' E' s)
  (hq : Q v st) : WV G cx A ex t Q X g ad st := W.ro (VR G g ad v) h fun a p => ⟨v, p, hq⟩
theorem WV.new {t : Sem Value} {Q : V → DS → Prop} (o : Obj) (hf : o.isFreed = false) (v : V)
  (h : ∀ (s : Shared) (Q' : Value → Shared → Prop) (E' : Value → Shared → Prop), Rel G cx ex g ad st s.heap → (∀ tk, Q' (.ref s.heap.objs.size) { s with heap := s.heap.push o, toks := tk }) → wpAny (model G.prog G.w) A t Q' E' s)
  (hv : ∀ a g', Sub g g' → g' a = some o → VR G g' ad v (.ref a)) (hq : Q v st) : WV G cx A ex t Q X g ad st := fun s Q' E' R hg k _ =>
 h s Q' E' R fun tk => let ⟨S, R'⟩ := R.frozen hf; k _ _ ad st _ S (prefix_refl _) ⟨v, hv _ _ S (upd_self _ _ _), hq⟩ R' hg rfl
theorem ev_int {i : Int} {k : Nat} {pos : Pos} {env : Env} {Q : V → DS → Prop} (hq : Q (.int i) st) : WV G cx A ex (eval (.Constant (.int i) k pos) env) Q X g ad st :=
 WV.ro (.int i) (fun s Q' E' R k => wpAny_Constant_int (k _ _ (.int i _))) hq
theorem ev_str {i : Str} {k : Nat} {pos : Pos} {env : Env} {Q : V → DS → Prop} (hq : Q (.str i) st) : WV G cx A ex (eval (.Constant (.str i) k pos) env) Q X g ad st :=
 WV.ro (.str i) (fun s Q' E' R k => wpAny_Constant_str (k _ _ (.str i _))) hq
theorem ev_none {k : Nat} {pos : Pos} {env : Env} {Q : V → DS → Prop} (hq : Q .none st) : WV G cx A ex (eval (.Constant .none k pos) env) Q X g ad st :=
 WV.ro .none (fun s Q' E' R k => wpAny_Constant_none (k _ s.toks .none)) hq
theorem ev_bool {b : Bool} {k : Nat} {pos : Pos} {env : Env} {Q : V → DS → Prop} (hq : Q (.bool b) st) : WV G cx A ex (eval (.Constant (.bool b) k pos) env) Q X g ad st :=
 WV.ro (.bool b) (fun s Q' E' R k => wpAny_Constant_bool (k _ s.toks (.bool b))) hq
structure NC where
 sc : Scope
 inn : Option (List (Str × V))
inductive EnvOk (G : Gd) (cx : Cx) (ex : List (Addr × Obj)) (g : PH) (ad : List Addr) : NC → Env → Prop
 | fn : EnvOk G cx ex g ad ⟨cx.envF.scope, none⟩ cx.envF
 | comp {env : Env} {inn C oC m} : env.scope.kind = .function → env.globals = mainGlobals → env.builtins = builtinsNs → env.frame = some cx.L → env.locals = C → (C, oC) ∈ ex → NsO oC m →
   (∀ x v, inn.lookup x = some v → ∃ val, m x = some val ∧ VR G g ad v val) →
   (∀ x, env.kindOf x = some .cell → cx.envF.kindOf x = some .cell ∧ env.cells.lookup x = cx.envF.cells.lookup x) → EnvOk G cx ex g ad ⟨env.scope, some inn⟩ env
theorem EnvOk.mono {nc : NC} {env : Env} (x : EnvOk G cx ex g ad nc env) (s : Sub g g') (p : ad <+: ad') : EnvOk G cx ex g' ad' nc env :=
 EnvOk.casesOn (motive := fun nc env _ => EnvOk G cx ex g' ad' nc env) x .fn fun a b b2 c d e f k l => .comp a b b2 c d e f (fun x v q => Exists.elim (k x v q) fun val r => ⟨val, r.1, r.2.mono s p⟩) l
noncomputable def nameV (nc : NC) (st : DS) (x : Str) : Option V := match nc.sc.names.lookup x with
 | some .local => (match nc.inn with | some l => l.lookup x | none => st.ls.lookup x)
 | some .cell => st.ls.lookup x
 | _ => none
theorem EnvOk.kind {nc : NC} {env : Env} (C : CxOk G cx) (x : EnvOk G cx ex g ad nc env) : env.scope.kind = .function := EnvOk.casesOn (motive := fun nc env _ => env.scope.kind = .function) x C.kind fun a _ _ _ _ _ _ _ _ => a
theorem EnvOk.glob {nc : NC} {env : Env} (C : CxOk G cx) (x : EnvOk G cx ex g ad nc env) : env.globals = mainGlobals := EnvOk.casesOn (motive := fun nc env _ => env.globals = mainGlobals) x C.globs fun _ b _ _ _ _ _ _ _ => b
theorem EnvOk.sc {nc : NC} {env : Env} (x : EnvOk G cx ex g ad nc env) : nc.sc = env.scope := EnvOk.casesOn (motive := fun nc env _ => nc.sc = env.scope) x rfl fun _ _ _ _ _ _ _ _ _ => rfl
theorem nameV_inv {nc : NC} {x : Str} {v : V} (hx : nameV nc st x = some v) :
  (nc.sc.names.lookup x = some .local ∧ (match nc.inn with | some l => l.lookup x | none => st.ls.lookup x) = some v) ∨ (nc.sc.names.lookup x = some .cell ∧ st.ls.lookup x = some v) := by
 unfold nameV at hx
 generalize nc.sc.names.lookup x = k at hx
 cases k with
 | none => exact none_some hx
 | some k => cases k with
  | «local» => exact .inl ⟨rfl, hx⟩
  | cell => exact .inr ⟨rfl, hx⟩
  | _ => exact none_some hx
theorem load_name {nc : NC} {env : Env} {x : Str} {v : V} {Q : V → DS → Prop} (C : CxOk G cx) (N : EnvOk G cx ex g ad nc env) (hx : nameV nc st x = some v) (hq : Q v st) :
  WV G cx A ex (loadName env x) Q X g ad st := by
 refine WV.ro v (fun s Q' E' R k => R.e fun oL cs fp I L MO => ?_) hq
 have cel : ∀ {env : Env}, env.scope.kind = .function → env.kindOf x = some .cell → cx.envF.kindOf x = some .cell → env.cells.lookup x = cx.envF.cells.lookup x → st.ls.lookup x = some v → wpAny (model G.prog G.w) A (loadName env x) Q' E' s := fun kd hk q1 q2 hx => by
  obtain ⟨c, o, val, e1, e2, e3, e4⟩ := L.cel x v hx q1
  exact wpAny_loadName_cell kd hk (q2.trans e1) ⟨o, I.cur _ (lv_cs e2), e3⟩ (k _ s.toks e4)
 revert hx
 refine EnvOk.casesOn (motive := fun nc env _ => nameV nc st x = some v → wpAny (model G.prog G.w) A (loadName env x) Q' E' s) N (fun hx => ?_) fun {env} inn Cc oC m a b b2 c d e f k1 k2 hx => ?_
 ·rcases nameV_inv hx with ⟨hk, hx⟩ | ⟨hk, hx⟩
  ·obtain ⟨m, hm, hl⟩ := L.ns
   obtain ⟨val, e1, e2⟩ := hl x v hx hk
   exact wpAny_loadName_local C.kind hk (C.locs ▸ hm.ns (I.cur _ (.head _))) e1 (k _ s.toks e2)
  ·exact cel C.kind hk hk rfl hx
 ·rcases nameV_inv hx with ⟨hk, hx⟩ | ⟨hk, hx⟩
  ·obtain ⟨val, e1, e2⟩ := k1 x v hx
   exact wpAny_loadName_local a hk (d ▸ f.ns (I.cur _ (lv_ex e))) e1 (k _ s.toks e2)
  ·exact cel a hk (k2 x hk).1 (k2 x hk).2 hx
theorem ev_name {nc : NC} {env : Env} {x : Str} {pos : Pos} {v : V} {Q : V → DS → Prop} (C : CxOk G cx) (N : EnvOk G cx ex g ad nc env) (hx : nameV nc st x = some v) (hd : (x == ("__debug__" : Str)) = false) (hq : Q v st) :
  WV G cx A ex (eval (.Name x pos) env) Q X g ad st := fun s Q' E' R hg k he => wpAny_Name (load_name C N hx hq s Q' E' R hg k he) hd
noncomputable def globV (G : Gd) (x : Str) : Option V := match nsIn G.K mainGlobals x with
 | some (some (.int i _)) => some (.int i)
 | _ => none
theorem ev_glob {nc : NC} {env : Env} {x : Str} {pos : Pos} {v : V} {Q : V → DS → Prop} (C : CxOk G cx) (N : EnvOk G cx ex g ad nc env) (hk : nc.sc.names.lookup x = some .globalImplicit) (hx : globV G x = some v) (hd : (x == ("__debug__" : Str)) = false) (hq : Q v st) :
  WV G cx A ex (eval (.Name x pos) env) Q X g ad st := by
 refine WV.ro v (fun s Q' E' R k => ?_) hq
 unfold globV at hx
 split at hx
 ·rename_i i t e
  cases hx
  have T := R.top C
  refine Name_function_global (N.kind C) (by rw [← hk, N.sc]; rfl) (loadGlobal_global (env := env) (by rw [N.glob C]; exact T.g) (mg_of (R.kin C) T.g e) (k _ s.toks (.int i t))) hd
 ·cases hx
noncomputable def WB (G : Gd) (cx : Cx) (A : Around) (ex : List (Addr × Obj)) (t : Sem Bool) (Q : Bool → DS → Prop) (X : Str → Prop) (g : PH) (ad : List Addr) (st : DS) : Prop :=
 W G cx A ex t (fun b _ _ st' => Q b st') X g ad st
noncomputable def truV : V → Option Bool
 | .bool b => some b
 | .none => some false
 | .int i => some (i != 0)
 | _ => none
theorem truthy_none {s : Shared} {Q' : Bool → Shared → Prop} {E' : Value → Shared → Prop} (k : Q' false s) : wpAny (model G.prog G.w) A (truthy .none) Q' E' s := fun _ _ _ => k
theorem truthy_of {s : Shared} {a : Value} {v : V} {b : Bool} {Q' : Bool → Shared → Prop} {E' : Value → Shared → Prop} (r : VR G g ad v a) (hb : truV v = some b) (k : Q' b s) : wpAny (model G.prog G.w) A (truthy a) Q' E' s := by
 cases v with
 | bool c => exact r.bool_e (wpAny_truthy_bool (Option.some.inj hb ▸ k))
 | none => exact r.none_e (truthy_none (Option.some.inj hb ▸ k))
 | int i => exact r.int_e fun t => P.truthy_int (Option.some.inj hb ▸ k)
 | _ => exact none_some hb
theorem tru {a : Value} {v : V} {b : Bool} {Q : Bool → DS → Prop} (r : VR G g ad v a) (hb : truV v = some b) (hq : Q b st) : WB G cx A ex (truthy a) Q X g ad st :=
 W.ro (fun c => c = b) (fun s Q' E' R k => truthy_of r hb (k b s.toks rfl)) fun c hc => hc ▸ hq
end
end
variable {nc : NC}
section
noncomputable def cutAt (h : Heap) (L : Nat) : Heap := ⟨h.objs.extract 0 L, h.life⟩
theorem cutAt_get (h : Heap) (L b : Nat) : (cutAt h L).get? b = if b < L then h.get? b else none := by
 have e : (h.objs.extract 0 L)[b]? = if b < L then h.objs[b]? else none := by
  rw [Array.getElem?_extract, Nat.zero_add, Nat.sub_zero]
  by_cases hb : b < L
  ·rw [if_pos hb]
   by_cases hs : b < h.objs.size
   ·rw [if_pos (Nat.lt_min.mpr ⟨hb, hs⟩)]
   ·rw [if_neg fun z => hs (Nat.lt_min.mp z).2]
    exact (Array.getElem?_eq_none (Nat.not_lt.mp hs)).symm
  ·rw [if_neg hb, if_neg fun z => hb (Nat.lt_min.mp z).1]
 show (match (h.objs.extract 0 L)[b]? with | some ⟨_, _, .freed, _⟩ => none | o => o) = _
 rw [e]
 by_cases hb : b < L
 ·rw [if_pos hb, if_pos hb]; rfl
 ·rw [if_neg hb, if_neg hb]
theorem cutAt_size (h : Heap) (L : Nat) : (cutAt h L).objs.size ≤ L := by
 show (h.objs.extract 0 L).size ≤ L
 rw [Array.size_extract]
 exact Nat.le_trans (Nat.sub_le _ _) (Nat.min_le_left _ _)
noncomputable def behind (h : Heap) (L : Nat) : List (Addr × Obj) := ((List.range h.objs.size).filter fun b => decide (L < b)).filterMap fun b => (h.get? b).map fun o => (b, o)
theorem mem_behind {h : Heap} {L : Nat} {p : Addr × Obj} : p ∈ behind h L ↔ L < p.1 ∧ h.get? p.1 = some p.2 := by
 unfold behind
 rw [List.mem_filterMap]
 constructor
 ·rintro ⟨b, hb, e⟩
  obtain ⟨o, ho, rfl⟩ := Option.map_eq_some_iff.mp e
  exact ⟨of_decide_eq_true (List.mem_filter.mp hb).2, ho⟩
 ·rintro ⟨h1, h2⟩
  exact ⟨p.1, List.mem_filter.mpr ⟨List.mem_range.mpr (Heap.lt_size h2), decide_eq_true h1⟩, by rw [h2]; rfl⟩
section
variable {α β : Type} {L : Addr} {m : Str → Option Value}
theorem brdF (hn : h.Ns L m) : Fr (cutAt h L) L h m := ⟨hn, fun b o e => (by rw [cutAt_get] at e; split at e <;> first | exact e | cases e), cutAt_size h L⟩
theorem brdN : News (cutAt h L) L h (behind h L) := fun p hp => by
 obtain ⟨h1, h2⟩ := mem_behind.mp hp
 exact ⟨h2, Nat.ne_of_gt h1, by rw [cutAt_get, if_neg (Nat.not_lt.mpr (Nat.le_of_lt h1))]⟩
theorem brd_after {news' : List (Addr × Obj)} (F' : Fr (cutAt h L) L h' m) (N' : News (cutAt h L) L h' news') (sub : ∀ p ∈ behind h L, p ∈ news') {b : Addr} {o : Obj} (e : h.get? b = some o) (hb : b ≠ L) : h'.get? b = some o := by
 rcases Nat.lt_or_gt_of_ne hb with q | q
 ·exact F'.keep b o (by rw [cutAt_get, if_pos q]; exact e)
 ·exact (N' (b, o) (sub _ (mem_behind.mpr ⟨q, e⟩))).1
theorem Rel.ns (R : Rel G cx ex g ad st h) : ∃ m, h.Ns cx.L m := by
 obtain ⟨oL, cs, fp, I, LO, MO⟩ := R
 obtain ⟨m, hm, _⟩ := LO.ns
 exact ⟨m, hm.ns (I.cur _ (.head _))⟩
theorem Rel.cutK (C : CxOk G cx) (R : Rel G cx ex g ad st h) : G.b₀.StaysIn (cutAt h cx.L) := fun b o e => by
 obtain ⟨lv, I⟩ := R.inv
 rw [cutAt_get, if_pos (Nat.lt_of_lt_of_le (Heap.lt_size (C.base b o (C.b₀ b o e))) C.above)]
 exact I.b0 C b o e
theorem ns_same {oL oL' : Obj} {m m₀ : Str → Option Value} (hm : h.Ns L m) (e : h.get? L = some oL) (hn : NsO oL m₀) : m₀ = m := by
 obtain ⟨o₁, es₁, ep₁, e1', e2', e3', e4'⟩ := hm
 have q : o₁ = oL := Option.some.inj (e1'.symm.trans e)
 subst q
 obtain ⟨es₂, ep₂, d1, _, d3⟩ := hn
 have ee := (Data.dict.inj (e2'.symm.trans d1)).1
 subst ee
 exact funext fun x => (d3 x).symm.trans (e4' x)
theorem Inv.after {lv : List (Addr × Obj)} {oL oL' : Obj} (C : CxOk G cx) (I : Inv cx g ((cx.L, oL) :: lv) h) (hk : ∀ b o, h.get? b = some o → b ≠ cx.L → h'.get? b = some o) (e1 : h'.get? cx.L = some oL') : Inv cx g ((cx.L, oL') :: lv) h' := by
 have nd := nodup_cons.mp (map_cons ▸ I.nd : ((cx.L, oL).1 :: lv.map (·.1)).Nodup)
 refine ⟨Nat.le_trans C.above (Nat.le_of_lt (Heap.lt_size e1)), fun b o e hb => ?_, fun a o e => hk a o (I.old a o e) fun z => none_some ((I.own _ (.head _)).1.symm.trans (z ▸ e)), I.sub, I.fresh, fun p hp => ?_, fun p hp => ?_, map_cons ▸ nodup_cons.mpr nd⟩
 ·have hbL : b ≠ cx.L := fun z => none_some (C.Lnew.symm.trans (z ▸ e))
  obtain ⟨k1, sl, k2⟩ := I.keep b o e hb
  exact ⟨fun nf => hk _ _ (k1 nf) hbL, sl, hk _ _ k2 hbL⟩
 ·rcases mem_cons.mp hp with e | hp
  ·exact e ▸ e1
  ·exact hk _ _ (I.cur p (.tail _ hp)) fun z => nd.1 (mem_map.mpr ⟨p, hp, z⟩)
 ·rcases mem_cons.mp hp with e | hp
  ·exact e ▸ I.own (cx.L, oL) (.head _)
  ·exact I.own p (.tail _ hp)
theorem Rel.after0 (R : Rel G cx ex g ad st h) (hm : h.Ns cx.L m) (hk : ∀ b o, h.get? b = some o → b ≠ cx.L → h'.get? b = some o) (hn : h'.Ns cx.L m) (C : CxOk G cx) :
  ∃ oL cs fp, Inv cx g ((cx.L, oL) :: (cs ++ (ex ++ fp.flatten))) h' ∧ LocOk G cx g ad oL cs st.ls ∧ MusOk G g ad st.mu fp ∧ ∀ p ∈ (cx.L, oL) :: (cs ++ (ex ++ fp.flatten)), p.1 < h.objs.size := R.e fun oL cs fp I LO MO => by
 obtain ⟨m₀, hm₀, hl⟩ := LO.ns
 obtain ⟨oL', es, ep, e1, e2, e3, e4⟩ := hn
 have hmm := ns_same (oL' := oL) hm (I.cur (cx.L, oL) (.head _)) hm₀
 subst hmm
 refine ⟨oL', cs, fp, I.after C hk e1, ⟨LO.cells, LO.celld, ⟨m₀, ⟨es, ep, e2, e3, e4⟩, hl⟩, LO.cel⟩, MO, fun p hp => ?_⟩
 rcases mem_cons.mp hp with e | hp
 ·exact e ▸ I.lvlt (p := (cx.L, oL)) (.head _)
 ·exact I.lvlt (.tail _ hp)
theorem Rel.after (R : Rel G cx ex g ad st h) (hm : h.Ns cx.L m) (hk : ∀ b o, h.get? b = some o → b ≠ cx.L → h'.get? b = some o) (hn : h'.Ns cx.L m) (C : CxOk G cx) : Rel G cx ex g ad st h' := by
 obtain ⟨oL, cs, fp, I, LO, MO, _⟩ := R.after0 hm hk hn C; exact ⟨oL, cs, fp, I, LO, MO⟩
theorem Inv.add {lv : List (Addr × Obj)} (I : Inv cx g lv h) {a : Addr} {o : Obj} (e : h.get? a = some o) (hg : g a = none) (hi : cx.hin.objs.size ≤ a) (hl : ∀ p ∈ lv, p.1 ≠ a) : Inv cx (upd g a o) lv h := by
 refine Inv.freeze ⟨I.size, I.keep, I.old, I.sub, I.fresh, fun p hp => ?_, fun p hp => ?_, ?_⟩
 ·rcases mem_cons.mp hp with rfl | hp
  ·exact e
  ·exact I.cur p hp
 ·rcases mem_cons.mp hp with rfl | hp
  ·exact ⟨hg, .inl hi⟩
  ·exact I.own p hp
 ·rw [map_cons, nodup_cons]
  exact ⟨fun hm => let ⟨p, hp, q⟩ := mem_map.mp hm; hl p hp q, I.nd⟩
theorem Rel.afterNew (R : Rel G cx ex g ad st h) (hm : h.Ns cx.L m) (hk : ∀ b o, h.get? b = some o → b ≠ cx.L → h'.get? b = some o) (hn : h'.Ns cx.L m) (C : CxOk G cx) {a : Addr} {o : Obj} (ha : h.objs.size ≤ a) (e : h'.get? a = some o) :
  Sub g (upd g a o) ∧ Rel G cx ex (upd g a o) ad st h' := by
 obtain ⟨lv, J⟩ := R.inv
 have S : Sub g (upd g a o) := Sub.upd (J.gnone ha)
 obtain ⟨oL, cs, fp, I, LO, MO, lt⟩ := R.after0 hm hk hn C
 exact ⟨S, oL, cs, fp, I.add e (J.gnone ha) (J.hnone ha) (fun p hp => Nat.ne_of_lt (Nat.lt_of_lt_of_le (lt p hp) ha)), LO.mono S (prefix_refl _), MO.mono S⟩
theorem Rel.doneFN (R : Rel G cx ex g ad st h) (C : CxOk G cx) (hm : h.Ns cx.L m) {o : Obj} (F' : Fr (cutAt h cx.L) cx.L h' m) (N' : News (cutAt h cx.L) cx.L h' ((h.objs.size, o) :: behind h cx.L)) :
  Sub g (upd g h.objs.size o) ∧ Rel G cx ex (upd g h.objs.size o) ad st h' :=
 R.afterNew hm (fun b o e hb => brd_after F' N' (fun p hp => .tail _ hp) e hb) F'.ns C (Nat.le_refl _) (N' _ (.head _)).1
theorem WV.newFN {t : Sem Value} {Q : V → DS → Prop} (C : CxOk G cx) (o : Obj) (v : V)
  (h : ∀ (s : Shared) (Q' : Value → Shared → Prop) (E' : Value → Shared → Prop) (h₀ : Heap) (m : Str → Option Value) (news : List (Addr × Obj)), Rel G cx ex g ad st s.heap → Fr h₀ cx.L s.heap m → News h₀ cx.L s.heap news → G.b₀.StaysIn h₀ →
   (∀ h' tk, Fr h₀ cx.L h' m → News h₀ cx.L h' ((s.heap.objs.size, o) :: news) → Q' (.ref s.heap.objs.size) { s with heap := h', toks := tk }) → wpAny (model G.prog G.w) A t Q' E' s)
  (hv : ∀ a g', Sub g g' → g' a = some o → VR G g' ad v (.ref a)) (hq : Q v st) : WV G cx A ex t Q X g ad st := fun s Q' E' R hg k _ => by
 obtain ⟨m, hm⟩ := R.ns
 refine h s Q' E' _ m _ R (brdF hm) brdN (R.cutK C) fun h' tk F' N' => ?_
 obtain ⟨S, R'⟩ := R.afterNew hm (fun b o e hb => brd_after F' N' (fun p hp => .tail _ hp) e hb) F'.ns C (Nat.le_refl _) (N' _ (.head _)).1
 exact k _ _ ad st _ S (prefix_refl _) ⟨v, hv _ _ S (upd_self _ _ _), hq⟩ R' hg rfl
theorem WV.roFN {t : Sem Value} {Q : V → DS → Prop} (C : CxOk G cx) (v : V)
  (h : ∀ (s : Shared) (Q' : Value → Shared → Prop) (E' : Value → Shared → Prop) (h₀ : Heap) (m : Str → Option Value) (news : List (Addr × Obj)), Rel G cx ex g ad st s.heap → Fr h₀ cx.L s.heap m → News h₀ cx.L s.heap news → G.b₀.StaysIn h₀ →
   (∀ a h' tk, Fr h₀ cx.L h' m → News h₀ cx.L h' news → VR G g ad v a → Q' a { s with heap := h', toks := tk }) → wpAny (model G.prog G.w) A t Q' E' s)
  (hq : Q v st) : WV G cx A ex t Q X g ad st := fun s Q' E' R hg k _ => by
 obtain ⟨m, hm⟩ := R.ns
 refine h s Q' E' _ m _ R (brdF hm) brdN (R.cutK C) fun a h' tk F' N' ra => ?_
 exact k _ g ad st _ (Sub.refl g) (prefix_refl _) ⟨v, ra, hq⟩ (R.after hm (fun b o e hb => brd_after F' N' (fun p hp => hp) e hb) F'.ns C) hg rfl
end
end
section
noncomputable def lstLine : Nat := 100000
theorem lstLine_le : lstLine ≤ sizeLine := by rw [sizeLine_eq]; decide
noncomputable def natLt (x : Int) (n : Nat) : Bool := match x with
 | .ofNat k => Nat.ble (k + 1) n
 | .negSucc _ => false
noncomputable def absLt (x : Int) (n : Nat) : Bool := match x with
 | .ofNat k => Nat.ble (k + 1) n
 | .negSucc k => Nat.ble (k + 1) n
theorem ble_iff {k n : Nat} : Nat.ble (k + 1) n = true ↔ k < n := ⟨Nat.le_of_ble_eq_true, Nat.ble_eq_true_of_le⟩
theorem natLt_iff {x : Int} {n : Nat} : natLt x n = true ↔ 0 ≤ x ∧ x < n := by
 cases x with
 | ofNat k => exact ble_iff.trans ⟨fun h => ⟨Int.natCast_nonneg k, Int.ofNat_lt.mpr h⟩, fun h => Int.ofNat_lt.mp h.2⟩
 | negSucc k => exact ⟨fun h => Bool.noConfusion h, fun h => absurd h.1 (Int.not_le_of_gt (Int.negSucc_lt_zero k))⟩
theorem absLt_iff {x : Int} {n : Nat} : absLt x n = true ↔ -(n : Int) ≤ x ∧ x < n := by
 cases x with
 | ofNat k => exact ble_iff.trans ⟨fun h => ⟨Int.le_trans (Int.neg_le_zero_iff.mpr (Int.natCast_nonneg n)) (Int.natCast_nonneg k), Int.ofNat_lt.mpr h⟩, fun h => Int.ofNat_lt.mp h.2⟩
 | negSucc k => exact ble_iff.trans ⟨fun h => by rw [Int.negSucc_eq]; omega, fun h => by have := h.1; rw [Int.negSucc_eq] at this; omega⟩
noncomputable def smallI (x : Int) : Bool := absLt x (2 ^ 64 - 1)
theorem smallI_of {x : Int} (h : smallI x = true) : -(2 ^ 64) < x ∧ x < 2 ^ 64 := by
 have := absLt_iff.mp h
 omega
noncomputable def smallN (x : Int) : Bool := Nat.ble (x.natAbs + 1) (2 ^ 64)
noncomputable def powK (y : Int) : Bool := natLt y 1000001
theorem pow_of {y x : Int} (h : (powK y && smallN x) = true) : 0 ≤ y ∧ y ≤ 1000000 ∧ x.natAbs < 2 ^ 64 :=
 have h := Bool.and_eq_true_iff.mp h
 ⟨(natLt_iff.mp h.1).1, Int.le_of_lt_add_one (natLt_iff.mp h.1).2, Nat.le_of_ble_eq_true h.2⟩
noncomputable def intP (a : V) (Q : Int → Prop) : Prop := match a with
 | .int x => Q x
 | _ => False
noncomputable def tupP (a : V) (Q : List V → Prop) : Prop := match a with
 | .tup l => Q l
 | _ => False
noncomputable def lstP (a : V) (Q : List V → Prop) : Prop := match a with
 | .lst l => Q l
 | _ => False
theorem intP_i {a : V} {Q : Int → Prop} (h : intP a Q) : ∃ x, a = .int x ∧ Q x := by cases a <;> first | exact ⟨_, rfl, h⟩ | exact False.elim h
theorem tupP_i {a : V} {Q : List V → Prop} (h : tupP a Q) : ∃ x, a = .tup x ∧ Q x := by cases a <;> first | exact ⟨_, rfl, h⟩ | exact False.elim h
theorem lstP_i {a : V} {Q : List V → Prop} (h : lstP a Q) : ∃ x, a = .lst x ∧ Q x := by cases a <;> first | exact ⟨_, rfl, h⟩ | exact False.elim h
noncomputable def intV (a b : V) (Q : Int → Int → Prop) : Prop := intP a fun x => intP b fun y => Q x y
noncomputable def addL (a b : V) (mu : List M) (Q : V → Prop) : Prop := oElim (asLst mu a) fun xs => oElim (asLst mu b) fun ys => chk (Nat.ble (xs.length + ys.length) lstLine) (Q (.lst (xs ++ ys)))
noncomputable def addT (a b : V) (mu : List M) (Q : V → Prop) : Prop := match a with
 | .int x => intP b fun y => Q (.int (x + y))
 | .tup l => tupP b fun l' => chk (!l.isEmpty) (chk (!l'.isEmpty) (chk (Nat.ble (l.length + l'.length) lstLine) (Q (.tup (l ++ l')))))
 | a => addL a b mu Q
noncomputable def mulT (a b : V) (Q : V → Prop) : Prop := match a with
 | .int x => intP b fun y => chk (smallI y || smallI x) (Q (.int (x * y)))
 | .lst l => intP b fun n => chk (absLt n 1000) (chk (Nat.ble l.length 1000) (Q (.lst (List.replicate n.toNat l).flatten)))
 | _ => False
noncomputable def binT (op : Operator) (a b : V) (mu : List M) (Q : V → Prop) : Prop := match op with
 | .Add => addT a b mu Q
 | .Mult => mulT a b Q
 | .Sub => intV a b fun x y => Q (.int (x - y))
 | .FloorDiv => intV a b fun x y => chk (y != 0) (Q (.int (x.fdiv y)))
 | .Mod => intV a b fun x y => chk (y != 0) (Q (.int (x.fmod y)))
 | .Pow => intV a b fun x y => chk (powK y && smallN x) (Q (.int (x ^ y.toNat)))
 | .LShift => intV a b fun x y => chk (powK y && smallN x) (Q (.int (x * 2 ^ y.toNat)))
 | .RShift => intV a b fun x y => chk (decide (0 ≤ y)) (Q (.int (x.fdiv (2 ^ y.toNat))))
 | .BitAnd => intV a b fun x y => Q (.int (Builtin.bitAnd x y))
 | _ => False
section
variable {α β : Type}
theorem Rel.seer (C : CxOk G cx) (R : Rel G cx ex g ad st h) : h.NoSeer := G.seer.keeps (let ⟨_, I⟩ := R.inv; I.b0 C)
theorem Rel.seerAt {s : Shared} (C : CxOk G cx) (O : AOk cx A r) (R : Rel G cx ex g ad st s.heap) : SeerAt (model G.prog G.w) A s.heap :=
 SeerAt.of (R.seer C) G.gtree O.frames C.noGen C.noCo C.blt C.globs
theorem AOk.pylong (O : AOk cx A r) : A.depth + Builtin.pylongFrames < recursionLimit :=
 Nat.lt_of_le_of_lt (Nat.add_le_add_right (Nat.le_trans (Nat.le_add_right _ _) O.depth) _) (by decide)
theorem flat_rep (l : List Value) : ∀ n, (List.foldl (fun x1 x2 => x1 ++ x2) (#[] : Array Value) (List.replicate n l.toArray)) = (List.replicate n l).flatten.toArray := by
 have key : ∀ n (acc : Array Value), List.foldl (fun x1 x2 => x1 ++ x2) acc (List.replicate n l.toArray) = acc ++ (List.replicate n l).flatten.toArray := by
  intro n
  induction n with
  | zero => intro acc; simp
  | succ n ih => intro acc; rw [replicate_succ, List.foldl_cons, ih, replicate_succ, flatten_cons]; simp [Array.append_assoc]
 intro n
 rw [key]; simp
theorem VRs.rep {l : List V} {vs : List Value} (x : VRs G g ad l vs) (n : Nat) : VRs G g ad (List.replicate n l).flatten (List.replicate n vs).flatten := by
 induction n with
 | zero => exact .nil
 | succ n ih => rw [replicate_succ, replicate_succ, flatten_cons, flatten_cons]; exact x.append ih
theorem flat_none (k : Nat) : (List.replicate k ([] : List Value)).flatten = [] := by induction k with | zero => rfl | succ k ih => rw [replicate_succ, flatten_cons, ih]; rfl
theorem rep_none (vs : List Value) (n : Nat) : (List.replicate (if vs.toArray.isEmpty = true then 0 else n) vs).flatten = (List.replicate n vs).flatten := by
 cases vs with
 | nil => rw [flat_none, flat_none]
 | cons _ _ => rfl
theorem VRs.ne {l : List V} {vs : List Value} (x : VRs G g ad l vs) (h : (!l.isEmpty) = true) : vs ≠ [] := by
 cases l with
 | nil => exact Bool.noConfusion h
 | cons v l => exact x.cons_e fun a as _ _ => List.cons_ne_nil a as
theorem WV.roi {t : Sem Value} {z : Int} {Q : V → DS → Prop} (h : ∀ (s : Shared) (Q' E' : Value → Shared → Prop), Rel G cx ex g ad st s.heap → (∀ u tk, Q' (.int z u) { s with toks := tk }) → wpAny (model G.prog G.w) A t Q' E' s) (hq : Q (.int z) st) : WV G cx A ex t Q X g ad st :=
 WV.ro (.int z) (fun s Q' E' R k => h s Q' E' R fun u tk => k _ tk (.int z u)) hq
@[elab_as_elim] theorem int_e {a : V} {x : Value} {Q : Int → Prop} {P : Value → Prop} (ra : VR G g ad a x) (h : intP a Q) (k : ∀ i t, Q i → P (.int i t)) : P x := by
 obtain ⟨i, e, q⟩ := intP_i h
 subst e
 obtain ⟨t, e⟩ := ra.inv
 exact e ▸ k i t q
@[elab_as_elim] theorem int2_e {a b : V} {x y : Value} {Q : Int → Int → Prop} {P : Value → Value → Prop} (ra : VR G g ad a x) (rb : VR G g ad b y) (h : intV a b Q) (k : ∀ i j t u, Q i j → P (.int i t) (.int j u)) : P x y :=
 int_e (P := fun x => P x y) ra h fun i t q => int_e (P := fun y => P (.int i t) y) rb q fun j u q => k i j t u q
theorem s_addL {a b : Value} {va vb : V} {Q : V → DS → Prop} (C : CxOk G cx) (ra : VR G g ad va a) (rb : VR G g ad vb b) (h : addL va vb st.mu fun v => Q v st) : WV G cx A ex (binaryOp .Add a b) Q X g ad st := fun s Q' E' R hg k he => by
 obtain ⟨xs, e1, h⟩ := oElim_some h
 obtain ⟨ys, e2, h⟩ := oElim_some h
 obtain ⟨h3, h⟩ := chk_le h
 refine R.list_e (P := fun a => wpAny _ _ (binaryOp .Add a b) _ _ _) ra e1 fun l vs il ql => R.list_e (P := fun b => wpAny _ _ (binaryOp .Add (.ref l) b) _ _ _) rb e2 fun l' ws il' ql' => ?_
 obtain ⟨m, hm⟩ := R.ns
 refine add_lists (brdF hm) brdN il il' (fun h' F' N' => ?_) (by rw [← ql.len, ← ql'.len]; exact Nat.le_trans h3 lstLine_le)
 have q := R.doneFN C hm F' N'
 exact k _ _ ad st _ q.1 (prefix_refl _) ⟨.lst (xs ++ ys), .lst ⟨_, upd_self _ _ _⟩ ((ql.mono q.1 (prefix_refl _)).append (ql'.mono q.1 (prefix_refl _))), h⟩ q.2 hg rfl
theorem s_addU {a b : Value} {l l' : List V} {Q : V → DS → Prop} (C : CxOk G cx) (ra : VR G g ad (.tup l) a) (rb : VR G g ad (.tup l') b) (h1 : (!l.isEmpty) = true) (h2 : (!l'.isEmpty) = true) (h3 : l.length + l'.length ≤ lstLine) (h : Q (.tup (l ++ l')) st) :
  WV G cx A ex (binaryOp .Add a b) Q X g ad st :=
 ra.tup_e fun r vs ea qa => rb.tup_e fun r' ws eb qb => WV.newFN C { cls := .type "tuple", data := .seq (vs ++ ws).toArray } (.tup (l ++ l')) (fun s Q' E' h₀ m news R F N K k =>
  add_tuples F N (ea.tuple R) (eb.tuple R) (fun z => absurd z (qa.ne h1)) (fun _ z => absurd z (qb.ne h2)) (fun _ _ h' F' N' => k h' s.toks F' N') (by rw [← qa.len, ← qb.len]; exact Nat.le_trans h3 lstLine_le))
   (fun t g' S e => .tup ⟨_, e⟩ ((qa.mono S (prefix_refl _)).append (qb.mono S (prefix_refl _)))) h
theorem s_addT {a b : Value} {va vb : V} {Q : V → DS → Prop} (C : CxOk G cx) (ra : VR G g ad va a) (rb : VR G g ad vb b) (h : addT va vb st.mu fun v => Q v st) : WV G cx A ex (binaryOp .Add a b) Q X g ad st := by
 cases va with
 | int x => exact ra.int_e fun t => int_e rb h fun y u q => WV.roi (fun s Q' E' R k => P.add_int (k _ _)) q
 | tup l =>
  obtain ⟨l', e, h⟩ := tupP_i h
  subst e
  obtain ⟨h1, h⟩ := chk_elim h
  obtain ⟨h2, h⟩ := chk_elim h
  exact s_addU C ra rb h1 h2 (chk_le h).1 (chk_le h).2
 | _ => exact s_addL C ra rb h
theorem s_mulT {a b : Value} {va vb : V} {Q : V → DS → Prop} (C : CxOk G cx) (ra : VR G g ad va a) (rb : VR G g ad vb b) (h : mulT va vb fun v => Q v st) : WV G cx A ex (binaryOp .Mult a b) Q X g ad st := by
 cases va with
 | int x =>
  refine ra.int_e fun t => int_e rb h fun y u q => WV.roi (fun s Q' E' R k => P.mul_int (k _ _) ?_) (chk_elim q).2
  rcases Bool.or_eq_true_iff.mp (chk_elim q).1 with q | q
  ·exact IntMulOk.of_right (intBits_le_64 (smallI_of q).1 (smallI_of q).2)
  ·exact IntMulOk.of_left (intBits_le_64 (smallI_of q).1 (smallI_of q).2)
 | lst l =>
  refine ra.lst_e fun a vs ea qa => int_e rb h fun n t q => ?_
  obtain ⟨h1, q⟩ := chk_elim q
  obtain ⟨h3, q⟩ := chk_le q
  have h1 := absLt_iff.mp h1
  obtain ⟨k₀, e⟩ := ea
  refine WV.newFN C { cls := .type "list", data := .seq (List.replicate n.toNat vs).flatten.toArray } (.lst (List.replicate n.toNat l).flatten) (fun s Q' E' h₀ m news R F N K k => ?_) (fun t g' S e => .lst ⟨_, e⟩ ((qa.mono S (prefix_refl _)).rep _)) q
  refine mul_list F N (R.old e) (Int.le_trans (show (-2 ^ 63 : Int) ≤ -(1000 : Nat) by decide) h1.1) (Int.lt_trans h1.2 (by decide)) ?_ fun h' F' N' => ?_
  ·rw [size_toArray, ← qa.len]
   exact Nat.le_trans (Nat.mul_le_mul h3 (show n.toNat ≤ 1000 from Int.toNat_le.mpr (Int.le_of_lt h1.2))) (by decide)
  ·rw [flat_rep, rep_none] at N'
   exact k h' s.toks F' N'
 | _ => exact False.elim h
theorem s_binT {op : Operator} {a b : Value} {va vb : V} {Q : V → DS → Prop} (C : CxOk G cx) (O : AOk cx A r) (ra : VR G g ad va a) (rb : VR G g ad vb b) (h : binT op va vb st.mu fun v => Q v st) :
  WV G cx A ex (binaryOp op a b) Q X g ad st := by
 cases op with
 | Add => exact s_addT C ra rb h
 | Mult => exact s_mulT C ra rb h
 | Sub => exact int2_e ra rb h fun x y t u q => WV.roi (fun s Q' E' R k => P.sub_int (k _ _)) q
 | FloorDiv => exact int2_e ra rb h fun x y t u q => WV.roi (fun s Q' E' R k => floordiv_int (bne_iff_ne.mp (chk_elim q).1) (k _ _) (.inr (PylongRoom.of (R.top C).nolimit O.pylong (R.seerAt C O)))) (chk_elim q).2
 | Mod => exact int2_e ra rb h fun x y t u q => WV.roi (fun s Q' E' R k => mod_int' (bne_iff_ne.mp (chk_elim q).1) (k _ _)) (chk_elim q).2
 | Pow => exact int2_e ra rb h fun x y t u q => have z := pow_of (chk_elim q).1; WV.roi (fun s Q' E' R k => pow_int_small z.1 z.2.1 z.2.2 (k _ _)) (chk_elim q).2
 | LShift => exact int2_e ra rb h fun x y t u q => have z := pow_of (chk_elim q).1; WV.roi (fun s Q' E' R k => lshift_int_small z.1 z.2.1 z.2.2 (k _ _)) (chk_elim q).2
 | RShift => exact int2_e ra rb h fun x y t u q => WV.roi (fun s Q' E' R k => rshift_int (chk_dec q).1 (k _ _)) (chk_dec q).2
 | BitAnd => exact int2_e ra rb h fun x y t u q => WV.roi (fun s Q' E' R k => and_int (k _ _)) q
 | _ => exact False.elim h
end
end
section
mutual
noncomputable def toPy : V → Option PyData
 | .none => some .none
 | .bool b => some (.bool b)
 | .int i => some (.int i)
 | .str x => some (.str x)
 | .tup l => (toPys l).map .tuple
 | .lst l => (toPys l).map .list
 | _ => none
noncomputable def toPys : List V → Option (List PyData)
 | [] => some []
 | v :: r => match toPy v, toPys r with
  | some d, some ds => some (d :: ds)
  | _, _ => none
end
noncomputable def toPyM (mu : List M) (v : V) : Option PyData := match v with
 | .cel _ => (asLst mu v).bind fun l => (toPys l).map .list
 | v => toPy v
section
theorem toPys_step {v : V} {l : List V} {ds : List PyData} {a : Value} {vs : List Value} (i1 : ∀ {d}, toPy v = some d → ∃ as, Reads h a d as) (i2 : ∀ {ds}, toPys l = some ds → ∃ as, ReadsAll h vs ds as) (e : toPys (v :: l) = some ds) : ∃ as, ReadsAll h (a :: vs) ds as := by
 replace e : (match toPy v, toPys l with | some d, some ds => some (d :: ds) | _, _ => none) = some ds := e
 generalize e1 : toPy v = o1 at e
 generalize e2 : toPys l = o2 at e
 cases o1 with
 | none => exact none_some e
 | some d => cases o2 with
  | none => exact none_some e
  | some ds' =>
   obtain ⟨as, p⟩ := i1 e1
   obtain ⟨bs, q⟩ := i2 e2
   exact Option.some.inj e ▸ ⟨_, .cons p q⟩
theorem toPys_seq {l : List V} {vs : List Value} {f : List PyData → PyData} {d : PyData} (ih : ∀ {ds}, toPys l = some ds → ∃ as, ReadsAll h vs ds as) (e : (toPys l).map f = some d) : ∃ ds as, d = f ds ∧ ReadsAll h vs ds as := by
 obtain ⟨ds, e1, e2⟩ := Option.map_eq_some_iff.mp e
 obtain ⟨as, p⟩ := ih e1
 exact ⟨ds, as, e2.symm, p⟩
theorem toPy_reads (R : Rel G cx ex g ad st h) {ad : List Addr} {v : V} {a : Value} {d : PyData} (x : VR G g ad v a) : toPy v = some d → ∃ as, Reads h a d as := by
 have c1 : ∀ {d e : PyData} {a : Value}, (∃ as, Reads h a d as) → some d = some e → ∃ as, Reads h a e as := fun x e => Option.some.inj e ▸ x
 revert d
 refine VR.rec (G := G) (motive_1 := fun ad v a _ => ∀ {d}, toPy v = some d → ∃ as, Reads h a d as) (motive_2 := fun ad l vs _ => ∀ {ds}, toPys l = some ds → ∃ as, ReadsAll h vs ds as) ?_ ?_ ?_ ?_ ?_ ?_ ?_ ?_ ?_ ?_ ?_ ?_ ?_ ?_ ?_ x
 ·exact fun e => c1 ⟨_, .none⟩ e
 ·exact fun b _ e => c1 ⟨_, .bool b⟩ e
 ·exact fun i t _ e => c1 ⟨_, .int i t⟩ e
 ·exact fun x t _ e => c1 ⟨_, .str x t⟩ e
 ·exact fun _ _ _ e => none_some e
 ·intro ad l a vs q r ih d e
  obtain ⟨ds, as, e, p⟩ := toPys_seq ih e
  obtain ⟨n, q⟩ := q
  exact e ▸ ⟨_, .tuple (R.old q) rfl rfl p⟩
 ·intro ad l a vs q r ih d e
  obtain ⟨ds, as, e, p⟩ := toPys_seq ih e
  obtain ⟨n, q⟩ := q
  exact e ▸ ⟨_, .list (R.old q) rfl rfl p⟩
 ·exact fun _ _ _ _ _ _ _ _ _ _ e => none_some e
 ·exact fun _ _ e => none_some e
 ·exact fun _ _ e => none_some e
 ·exact fun _ _ _ _ e => none_some e
 ·exact fun _ _ _ _ _ e => none_some e
 ·exact fun _ _ e => none_some e
 ·exact fun e => Option.some.inj e ▸ ⟨_, .nil⟩
 ·exact fun a r i1 i2 ds e => toPys_step i1 i2 e
theorem toPys_reads (R : Rel G cx ex g ad st h) {ad : List Addr} {l : List V} {vs : List Value} {ds : List PyData} (x : VRs G g ad l vs) (e : toPys l = some ds) : ∃ as, ReadsAll h vs ds as := by
 induction l generalizing vs ds with
 | nil => exact x.nil_e (Option.some.inj e ▸ ⟨_, .nil⟩)
 | cons v l ih => exact x.cons_e fun a as y r => toPys_step (fun e => toPy_reads R y e) (fun e => ih r e) e
theorem toPyM_reads (R : Rel G cx ex g ad st h) {v : V} {a : Value} {d : PyData} (r : VR G g ad v a) (e : toPyM st.mu v = some d) : ∃ as, Reads h a d as := by
 have go : (∃ as, Reads h a d as) ∨ toPy v = some d := by
  cases v with
  | cel j =>
   obtain ⟨l, e1, e2⟩ := Option.bind_eq_some_iff.mp e
   obtain ⟨l', vs, ea, ⟨o, h1, h2, n, h3⟩, q⟩ := R.isList r e1
   obtain ⟨ds, as, e, p⟩ := toPys_seq (fun e => toPys_reads R q e) e2
   exact .inl (ea ▸ e ▸ ⟨_, .list h1 h2 h3 p⟩)
  | _ => exact .inr e
 exact go.elim id fun e => toPy_reads R r e
end
noncomputable def eqA (x y : PyData) : Bool := match x with
 | .str a => (match y with
  | .str b => a == b
  | _ => PyData.eqv x y)
 | .int a => (match y with
  | .int b => decide (a = b)
  | _ => PyData.eqv x y)
 | _ => PyData.eqv x y
noncomputable def eqL (l : List PyData) : List PyData → Bool :=
 List.rec (fun ys => ys.isEmpty) (fun x _ k ys => match ys with
  | [] => false
  | y :: ys => eqA x y && k ys) l
noncomputable def eqF (x y : PyData) : Bool := match x with
 | .tuple a => (match y with
  | .tuple b => eqL a b
  | _ => PyData.eqv x y)
 | _ => eqA x y
theorem eqA_eq (x y : PyData) : eqA x y = PyData.eqv x y := by
 cases x with
 | str a => cases y with
  | str b => kernel_rfl
  | _ => rfl
 | int a => cases y with
  | int b => kernel_rfl
  | _ => rfl
 | _ => rfl
theorem eqL_eq (l : List PyData) : ∀ k, eqL l k = PyData.eqvAll l k := by
 induction l with
 | nil => intro k; cases k <;> kernel_rfl
 | cons x l ih => intro k; cases k with
  | nil => kernel_rfl
  | cons y k => exact ((congrArg (fun z => z && eqL l k) (eqA_eq x y)).trans (congrArg (fun z => PyData.eqv x y && z) (ih k))).trans (by kernel_rfl)
theorem eqF_eq (x y : PyData) : eqF x y = PyData.eqv x y := by
 cases x with
 | tuple a => cases y with
  | tuple b => exact (eqL_eq a b).trans (by kernel_rfl)
  | _ => rfl
 | str s => exact eqA_eq (.str s) y
 | int i => exact eqA_eq (.int i) y
 | _ => rfl
noncomputable def shA (d : PyData) : Bool := match d with
 | .none => true
 | .bool _ => true
 | .int _ => true
 | .str x => x.cps.toList.all (· < 0x110000)
 | _ => false
noncomputable def shL (l : List PyData) : Bool := List.rec true (fun x _ k => shA x && k) l
noncomputable def shF (d : PyData) : Bool := shA d || (match d with
 | .tuple l => shL l
 | _ => false) || SeqAt.shaped d
theorem shA_ok {d : PyData} (h : shA d = true) : d.canLay0 = true ∧ d.depth = 0 := by
 cases d with
 | none => exact ⟨by kernel_rfl, by kernel_rfl⟩
 | bool _ => exact ⟨by kernel_rfl, by kernel_rfl⟩
 | int _ => exact ⟨by kernel_rfl, by kernel_rfl⟩
 | str x => exact ⟨(show (PyData.str x).canLay0 = x.cps.all (· < 0x110000) from by kernel_rfl).trans (Array.all_toList.symm.trans h), by kernel_rfl⟩
 | list _ => exact Bool.noConfusion h
 | tuple _ => exact Bool.noConfusion h
 | dict _ => exact Bool.noConfusion h
theorem shL_ok {l : List PyData} (h : shL l = true) : PyData.canLayAll0 l = true ∧ PyData.depthAll l = 0 := by
 induction l with
 | nil => exact ⟨by kernel_rfl, by kernel_rfl⟩
 | cons x l ih =>
  have h := Bool.and_eq_true_iff.mp (show (shA x && shL l) = true from h)
  have a := shA_ok h.1
  have b := ih h.2
  exact ⟨(show PyData.canLayAll0 (x :: l) = (x.canLay0 && PyData.canLayAll0 l) from by kernel_rfl).trans (by rw [a.1, b.1]; rfl), (show PyData.depthAll (x :: l) = max x.depth (PyData.depthAll l) from by kernel_rfl).trans (by rw [a.2, b.2]; rfl)⟩
theorem shF_ok {d : PyData} (h : shF d = true) : SeqAt.shaped d = true := by
 rcases Bool.or_eq_true_iff.mp h with h | h
 ·rcases Bool.or_eq_true_iff.mp h with h | h
  ·have a := shA_ok h
   exact Bool.and_eq_true_iff.mpr ⟨a.1, by rw [a.2]; rfl⟩
  ·cases d with
   | tuple l =>
    have a := shL_ok h
    exact Bool.and_eq_true_iff.mpr ⟨(show (PyData.tuple l).canLay0 = PyData.canLayAll0 l from by kernel_rfl).trans a.1, decide_eq_true (Nat.le_trans (Nat.le_of_eq ((show (PyData.tuple l).depth = PyData.depthAll l + 1 from by kernel_rfl).trans (by rw [a.2]))) (by decide))⟩
   | _ => exact Bool.noConfusion h
 ·exact h
theorem shF_of {d : PyData} (h : SeqAt.shaped d = true) : shF d = true := by unfold shF; rw [h, Bool.or_true]
noncomputable def eqT2 (a b : V) (Q : Bool → Prop) : Prop := lstP a fun xs => lstP b fun ys => match ys with
 | [] => xs ≠ [] ∧ Q false
 | _ => False
noncomputable def eqT (a b : V) (mu : List M) (Q : Bool → Prop) : Prop := match toPyM mu a, toPyM mu b with
 | some x, some y => chk (shF x && shF y) (Q (eqF x y))
 | _, _ => eqT2 a b Q
noncomputable def neT (a b : V) (mu : List M) (Q : Bool → Prop) : Prop := oElim (toPyM mu a) fun x => oElim (toPyM mu b) fun y => chk (shF x && shF y) (Q (!eqF x y))
noncomputable def optAll {α : Type} (f : V → Option α) (l : List V) : Option (List α) := List.rec (some []) (fun v _ r => (f v).bind fun x => r.map (x :: ·)) l
noncomputable def strW (v : V) : Option Str := match v with | .str x => some x | _ => none
noncomputable def intW (v : V) : Option Int := match v with | .int x => some x | _ => none
noncomputable def boolW (v : V) : Option Bool := match v with | .bool x => some x | _ => none
noncomputable def strsOf (l : List V) : Option (List Str) := optAll strW l
noncomputable def intsOf (l : List V) : Option (List Int) := optAll intW l
noncomputable def boolsOf (l : List V) : Option (List Bool) := optAll boolW l
theorem strW_i {v : V} {x : Str} (e : strW v = some x) : v = .str x := by cases v <;> first | exact congrArg V.str (Option.some.inj e) | exact none_some e
theorem intW_i {v : V} {x : Int} (e : intW v = some x) : v = .int x := by cases v <;> first | exact congrArg V.int (Option.some.inj e) | exact none_some e
theorem boolW_i {v : V} {x : Bool} (e : boolW v = some x) : v = .bool x := by cases v <;> first | exact congrArg V.bool (Option.some.inj e) | exact none_some e
theorem optAll_map {α β : Type} {f : V → Option α} {g : β → V} {k : β → α} (h : ∀ x, f (g x) = some (k x)) (l : List β) : optAll f (l.map g) = some (l.map k) := by
 induction l with
 | nil => rfl
 | cons x l ih => show (f (g x)).bind (fun y => (optAll f (l.map g)).map (y :: ·)) = _; rw [h x, ih]; rfl
noncomputable def inI (x : Int) (b : V) (Q : Bool → Prop) : Prop := match b with
 | .tup l => oElim (intsOf l) fun ns => Q (ns.any (· == x))
 | .rng a b => Q (decide (a ≤ x) && decide (x < b))
 | _ => False
noncomputable def inT (a b : V) (Q : Bool → Prop) : Prop := match a with
 | .int x => inI x b Q
 | .str x => lstP b fun l => oElim (strsOf l) fun ys => Q (ys.any (· == x))
 | _ => False
noncomputable def isNoneV : V → Bool
 | .none => true
 | _ => false
noncomputable def cmpT (op : CmpOp) (a b : V) (mu : List M) (Q : Bool → Prop) : Prop := match op with
 | .Eq => eqT a b mu Q
 | .NotEq => neT a b mu Q
 | .Lt => intV a b fun x y => Q (decide (x < y))
 | .LtE => intV a b fun x y => Q (decide (x ≤ y))
 | .Gt => intV a b fun x y => Q (decide (x > y))
 | .GtE => intV a b fun x y => Q (decide (x ≥ y))
 | .Is => chk (isNoneV b) (Q (isNoneV a))
 | .IsNot => chk (isNoneV b) (Q (!isNoneV a))
 | .In => inT a b Q
 | .NotIn => inT a b fun c => Q (!c)
noncomputable def c1T (op : CmpOp) (a b : V) (Q : Bool → DS → Prop) (st : DS) : Prop := cmpT op a b st.mu fun c => Q c st
section
variable {α β : Type}
theorem optAll_e {α : Type} {f : V → Option α} {P : List Value → List α → Prop} (n : P [] []) (c : ∀ {v : V} {a : Value} {x : α} {vs : List Value} {xs : List α}, VR G g ad v a → f v = some x → P vs xs → P (a :: vs) (x :: xs)) {l : List V} {xs : List α} {vs : List Value} (x : VRs G g ad l vs) (e : optAll f l = some xs) : P vs xs := by
 induction l generalizing vs xs with
 | nil => exact x.nil_e (Option.some.inj e ▸ n)
 | cons v l ih =>
  refine x.cons_e fun a as y r => ?_
  obtain ⟨b, e1, e⟩ := Option.bind_eq_some_iff.mp e
  obtain ⟨bs, e2, e⟩ := Option.map_eq_some_iff.mp e
  exact e ▸ c y e1 (ih r e2)
theorem strsOf_are {l : List V} {ys : List Str} {vs : List Value} (x : VRs G g ad l vs) (e : strsOf l = some ys) : StrsAre vs ys :=
 optAll_e (P := StrsAre) .nil (fun {v a y vs xs} r q p => by obtain ⟨t, e⟩ := (strW_i q ▸ r : VR G g ad (.str y) a).inv; exact e ▸ .cons _ _ p) x e
theorem intsOf_are {l : List V} {ys : List Int} {vs : List Value} (x : VRs G g ad l vs) (e : intsOf l = some ys) : IntsAre vs ys :=
 optAll_e (P := IntsAre) .nil (fun {v a y vs xs} r q p => by obtain ⟨t, e⟩ := (intW_i q ▸ r : VR G g ad (.int y) a).inv; exact e ▸ .cons _ _ p) x e
theorem boolsOf_are {l : List V} {ys : List Bool} {vs : List Value} (x : VRs G g ad l vs) (e : boolsOf l = some ys) : LSm.BoolsAre vs ys :=
 optAll_e (P := LSm.BoolsAre) .nil (fun {v a y vs xs} r q p => by have e := (boolW_i q ▸ r : VR G g ad (.bool y) a).inv; exact e ▸ .cons _ p) x e
theorem AOk.room64 (O : AOk cx A r) : A.units + 64 < cLine := Nat.lt_of_le_of_lt (Nat.add_le_add_right (Nat.le_trans (Nat.le_add_right _ _) O.units) 64) (by decide)
theorem isNone_is {v : V} {a : Value} (r : VR G g ad v a) : (a == Value.none) = isNoneV v :=
 VR.casesOn (motive_1 := fun _ v a _ => (a == Value.none) = isNoneV v) r rfl (fun _ => rfl) (fun _ _ => rfl) (fun _ _ => rfl) (fun _ _ => rfl) (fun _ _ => rfl) (fun _ _ => rfl) (fun _ _ _ _ _ _ _ _ => rfl) (fun _ => rfl) (fun _ => rfl) (fun _ _ _ => rfl) (fun _ _ _ _ => rfl) fun _ => rfl
theorem isNoneV_i {v : V} (h : isNoneV v = true) : v = .none := by cases v <;> first | rfl | exact Bool.noConfusion h
theorem range_contains (r : Addr) (a b x : Int) (t u v tx : Tok) :
  Meets (Builtin.«range.__contains__» ⟨[.ref r, .int x tx], []⟩) (fun _ R s => IsRange s.heap r a b 1 t u v ∧ R (.ok (.ret (.bool (decide (a ≤ x) && decide (x < b))))) s) :=
 .of_wp fun prog w A R s h => by
  obtain ⟨hp, g, d, tk, os⟩ := s; obtain ⟨hl, h⟩ := h
  have e : (Builtin.Range.rangePlace? a b 1 x).isSome = (decide (a ≤ x) && decide (x < b)) := by
   unfold Builtin.Range.rangePlace?
   have h1 : (x - a) % 1 = 0 := Int.emod_one _
   by_cases q : a ≤ x <;> by_cases q' : x < b <;> simp [q, q', h1]
  rw [← e] at h
  wp_walk using wpAny_load hl
  exact ⟨_, rfl, h⟩
noncomputable def WB1 (G : Gd) (cx : Cx) (A : Around) (ex : List (Addr × Obj)) (t : Sem Value) (Q : Bool → DS → Prop) (X : Str → Prop) (g : PH) (ad : List Addr) (st : DS) : Prop :=
 W G cx A ex t (fun c _ _ st' => ∃ k, c = .bool k ∧ Q k st') X g ad st
theorem WB1.ro {t : Sem Value} {b : Bool} {Q : Bool → DS → Prop} (h : ∀ (s : Shared) (Q' E' : Value → Shared → Prop), Rel G cx ex g ad st s.heap → (Q' (.bool b) s) → wpAny (model G.prog G.w) A t Q' E' s) (hq : Q b st) : WB1 G cx A ex t Q X g ad st :=
 W.ro (fun c => c = .bool b) (fun s Q' E' R k => h s Q' E' R (k _ s.toks rfl)) fun c e => ⟨b, e, hq⟩
theorem s_eqT {a b : Value} {va vb : V} {Q : Bool → DS → Prop} (O : AOk cx A r) (ra : VR G g ad va a) (rb : VR G g ad vb b) (h : eqT va vb st.mu fun c => Q c st) : WB1 G cx A ex (compareOp .Eq a b) Q X g ad st := by
 have second : eqT2 va vb (fun c => Q c st) → WB1 G cx A ex (compareOp .Eq a b) Q X g ad st := fun h => by
  obtain ⟨xs, e, h⟩ := lstP_i (a := va) h
  subst e
  obtain ⟨ys, e, h⟩ := lstP_i (a := vb) h
  subst e
  cases ys with
  | cons _ _ => exact False.elim h
  | nil =>
   refine WB1.ro (fun s Q' E' R k => ?_) h.2
   refine ra.lst_e fun l vs q1 p1 => rb.lst_e fun l' ws q2 p2 => ?_
   have ew : ws = [] := p2.inv
   subst ew
   obtain ⟨n1, q1⟩ := q1
   obtain ⟨n2, q2⟩ := q2
   refine P.eq_list_lengths (R.old q1) (R.old q2) ?_ (Nat.lt_of_le_of_lt (Nat.le_add_right _ _) O.room64) k
   cases xs with
   | nil => exact absurd rfl h.1
   | cons _ _ => exact p1.cons_e fun _ _ _ _ => rfl
 unfold eqT at h
 generalize e1 : toPyM st.mu va = o1 at h
 generalize e2 : toPyM st.mu vb = o2 at h
 cases o1 with
 | none => exact second h
 | some x => cases o2 with
  | none => exact second h
  | some y =>
   refine WB1.ro (fun s Q' E' R k => ?_) (chk_elim h).2
   obtain ⟨as, pa⟩ := toPyM_reads R ra e1
   obtain ⟨bs, pb⟩ := toPyM_reads R rb e2
   have sh := Bool.and_eq_true_iff.mp (chk_elim h).1
   exact eq_dataH pa pb (shF_ok sh.1) (shF_ok sh.2) O.room64 (eqF_eq x y ▸ k)
theorem s_neT {a b : Value} {va vb : V} {Q : Bool → DS → Prop} (O : AOk cx A r) (ra : VR G g ad va a) (rb : VR G g ad vb b) (h : neT va vb st.mu fun c => Q c st) : WB1 G cx A ex (compareOp .NotEq a b) Q X g ad st :=
 oE_e h fun x e1 h => oE_e h fun y e2 h => WB1.ro (fun s Q' E' R k => by
  obtain ⟨as, pa⟩ := toPyM_reads R ra e1
  obtain ⟨bs, pb⟩ := toPyM_reads R rb e2
  have sh := Bool.and_eq_true_iff.mp (chk_elim h).1
  exact ne_dataH pa pb (shF_ok sh.1) (shF_ok sh.2) O.room64 (eqF_eq x y ▸ k)) (chk_elim h).2
theorem s_inT {op : CmpOp} {f : Bool → Bool} {a b : Value} {va vb : V} {Q : Bool → DS → Prop} (hop : (op = .In ∧ f = id) ∨ (op = .NotIn ∧ f = not)) (ra : VR G g ad va a) (rb : VR G g ad vb b) (h : inT va vb fun c => Q (f c) st) : WB1 G cx A ex (compareOp op a b) Q X g ad st := by
 cases va with
 | int x =>
  refine ra.int_e fun t => ?_
  cases vb with
  | tup l =>
   obtain ⟨ns, e, h⟩ := oElim_some h
   refine WB1.ro (fun s Q' E' R k => R.tup_e rb fun t vs it p => ?_) h
   rcases hop with ⟨e1, e2⟩ | ⟨e1, e2⟩
   ·subst e1 e2; exact in_tuple_ints it (intsOf_are p e) k
   ·subst e1 e2; exact notin_tuple_ints it (intsOf_are p e) k
  | rng y z =>
   refine WB1.ro (fun s Q' E' R k => ?_) h
   obtain ⟨r, t, u, w, e, q⟩ := rb.inv
   subst e
   rcases hop with ⟨e1, e2⟩ | ⟨e1, e2⟩
   ·subst e1 e2; exact SeqRoads2.in_meets ⟨_, R.old q, rfl⟩ F.slot_range_contains F.entry_range_contains (F.args_range_contains_2 _ _) (range_contains _ _ _ _ _ _ _ _) ⟨R.old q, _, rfl, k⟩
   ·subst e1 e2; exact SeqRoads2.notIn_meets ⟨_, R.old q, rfl⟩ F.slot_range_contains F.entry_range_contains (F.args_range_contains_2 _ _) (range_contains _ _ _ _ _ _ _ _) ⟨R.old q, _, rfl, k⟩
  | _ => exact False.elim h
 | str x =>
  refine ra.str_e fun t => ?_
  obtain ⟨l, e, h⟩ := lstP_i h
  subst e
  obtain ⟨ys, e, h⟩ := oElim_some h
  refine WB1.ro (fun s Q' E' R k => rb.lst_e fun l vs q p => ?_) h
  rcases hop with ⟨e1, e2⟩ | ⟨e1, e2⟩
  ·subst e1 e2; exact in_list_strs (q.list R) (strsOf_are p e) k
  ·subst e1 e2; exact notin_list_strs (q.list R) (strsOf_are p e) k
 | _ => exact False.elim h
theorem s_cmpT {op : CmpOp} {a b : Value} {va vb : V} {Q : Bool → DS → Prop} (C : CxOk G cx) (O : AOk cx A r) (ra : VR G g ad va a) (rb : VR G g ad vb b) (h : c1T op va vb Q st) : WB1 G cx A ex (compareOp op a b) Q X g ad st := by
 cases op with
 | Eq => exact s_eqT O ra rb h
 | NotEq => exact s_neT O ra rb h
 | Lt => exact int2_e ra rb h fun x y t u q => WB1.ro (fun s Q' E' R k => P.lt_int k) q
 | LtE => exact int2_e ra rb h fun x y t u q => WB1.ro (fun s Q' E' R k => P.le_int k) q
 | Gt => exact int2_e ra rb h fun x y t u q => WB1.ro (fun s Q' E' R k => P.gt_int k) q
 | GtE => exact int2_e ra rb h fun x y t u q => WB1.ro (fun s Q' E' R k => P.ge_int k) q
 | Is =>
  have q := chk_elim h
  have eb := (isNoneV_i q.1 ▸ rb : VR G g ad .none b).inv
  subst eb
  exact WB1.ro (fun s Q' E' R k => is_none (by rw [isNone_is ra]; exact k)) q.2
 | IsNot =>
  have q := chk_elim h
  have eb := (isNoneV_i q.1 ▸ rb : VR G g ad .none b).inv
  subst eb
  exact WB1.ro (fun s Q' E' R k => isNot_none (by rw [isNone_is ra]; exact k)) q.2
 | In => exact s_inT (.inl ⟨rfl, rfl⟩) ra rb h
 | NotIn => exact s_inT (.inr ⟨rfl, rfl⟩) ra rb h
end
end
section
noncomputable def pickV (l : List V) (lo hi st : Option Int) : List V :=
 (sliceRange (sliceBounds lo hi st l.length).1 (sliceBounds lo hi st l.length).2.1 (sliceBounds lo hi st l.length).2.2).filterMap (l[·]?)
noncomputable def subI (o : V) (k : Int) (mu : List M) (Q : V → Prop) : Prop := match o with
 | .tup l => chk (absLt k (2 ^ 63)) (oElim (seqIndex? k l.length) fun j => oElim l[j]? Q)
 | o => oElim (asLst mu o) fun l => chk (natLt k (2 ^ 63)) (oElim l[k.toNat]? Q)
noncomputable def subS (o : V) (lo hi st : Option Int) (mu : List M) (Q : V → Prop) : Prop := match o with
 | .tup l => chk (lo.isNone && hi == some (-1) && st.isNone) (chk (Nat.ble 2 l.length) (chk (Nat.ble l.length lstLine) (Q (.tup (l.take (l.length - 1))))))
 | .bytes b => oElim lo fun x => oElim hi fun y => chk st.isNone (chk (decide (0 ≤ x)) (chk (decide (x ≤ y)) (chk (decide (y ≤ b.size)) (chk (Nat.ble b.size lstLine) (Q (.bytes (b.extract x.toNat y.toNat)))))))
 | o => oElim (asLst mu o) fun l => chk (st != some 0) (chk (Nat.ble l.length lstLine) (Q (.lst (pickV l lo hi st))))
noncomputable def subT (o i : V) (mu : List M) (Q : V → Prop) : Prop := match i with
 | .int k => subI o k mu Q
 | .slc lo hi st => subS o lo hi st mu Q
 | _ => False
section
variable {α β : Type}
theorem VRs.picks {l : List V} {vs : List Value} (x : VRs G g ad l vs) (js : List Nat) : VRs G g ad (js.filterMap (l[·]?)) (js.filterMap (vs[·]?)) := by
 induction js with
 | nil => exact .nil
 | cons j js ih =>
  rw [filterMap_cons, filterMap_cons]
  cases e : l[j]? with
  | none => rw [List.getElem?_eq_none (x.len ▸ List.getElem?_eq_none_iff.mp e)]; exact ih
  | some v =>
   obtain ⟨val, e2, rv⟩ := x.get e
   rw [e2]; exact .cons rv ih
theorem VRs.pick {l : List V} {vs : List Value} (x : VRs G g ad l vs) (lo hi st : Option Int) : VRs G g ad (pickV l lo hi st) (slicePick vs.toArray lo hi st).toList := by
 unfold pickV slicePick
 rw [x.len]
 simpa using x.picks _
theorem wpV_tail {value slice : Expr} {o i : Value} {T id : String} {s : Shared} {Q' E' : Value → Shared → Prop} (hT : s.TypeIs o T) (hl : typeLookup (.type T) "__getitem__" = pure (some (.builtin id)))
  (hg : wpAny (model G.prog G.w) A (getItem o i) Q' E' s) (hs : ∃ ops, subscripted slice false o i = operate ops (getItem o i)) : wpAny (model G.prog G.w) A (subscriptTail value slice o i) Q' E' s :=
 let ⟨_, e⟩ := hs; tail_any hT hl hg e
theorem subscripted_ops (slice : Expr) (o i : Value) : ∃ ops, subscripted slice false o i = operate ops (getItem o i) := by
 cases slice with
 | Slice lo hi st p => cases st <;> exact ⟨_, rfl⟩
 | _ => exact ⟨_, rfl⟩
theorem adjust_to1 (m : Nat) : Builtin.Slice.sliceAdjust none (some (-1)) 1 ((m + 1 : Nat) : Int) = (0, (m : Int)) := by
 show ((0 : Int), max (-1 + ((m + 1 : Nat) : Int)) 0) = _
 rw [Int.natCast_add, Int.add_comm, show (m : Int) + (1 : Nat) + -1 = m from Int.add_neg_cancel_right m 1, Int.max_eq_left (Int.natCast_nonneg m)]
theorem places_to1 (m : Nat) : Builtin.Slice.slicePlaces 0 (m : Int) 1 = m := by
 cases m with
 | zero => rfl
 | succ m =>
  show (if (0 : Int) < ((m + 1 : Nat) : Int) then (((m + 1 : Nat) : Int) - 0 - 1) / 1 + 1 else 0).toNat = m + 1
  rw [if_pos (Int.natCast_pos.mpr (Nat.succ_pos m)), Int.sub_zero, Int.ediv_one, Int.sub_add_cancel]
  rfl
theorem sliceApplied_to1 {s : Shared} {sl : Addr} {n : Nat} {u : Tok} {E' : Value → Shared → Prop} {Q' : Int × Int × Nat → Shared → Prop} (hs : s.heap.IsSliceOf sl .none (.int (-1) u) .none) (hn : 1 ≤ n) (h : Q' (0, 1, n - 1) s) :
  wpAny (model G.prog G.w) A (Builtin.Slice.sliceApplied (.ref sl) (pure (n : Int))) Q' E' s := by
 obtain ⟨os, hos, hcs, hds⟩ := id hs
 unfold Builtin.Slice.sliceApplied Builtin.Slice.sliceFields
 refine wpAny_bind (wpAny_bind (wpAny_field hos hds (x := .none) rfl (wpAny_bind (wpAny_field hos hds (x := .int (-1) u) rfl (wpAny_bind (wpAny_field hos hds (x := .none) rfl (wpAny_pure ?_)))))))
 refine wpAny_bind (slicePart_none ?_)
 show wpAny _ _ (if ((1 : Int) == 0) = true then _ else _) _ _ s
 rw [if_neg (by decide)]
 refine wpAny_bind (slicePart_none (wpAny_bind (slicePart_int (wpAny_bind (wpAny_pure ?_)))))
 show wpAny _ _ (match Builtin.Slice.sliceAdjust none (some (-1)) 1 (n : Int) with | (lo, hi) => pure (lo, (1 : Int), Builtin.Slice.slicePlaces lo hi 1)) _ _ s
 obtain ⟨m, rfl⟩ : ∃ m, n = m + 1 := ⟨n - 1, (Nat.sub_add_cancel hn).symm⟩
 rw [adjust_to1]
 show wpAny _ _ (pure ((0 : Int), (1 : Int), Builtin.Slice.slicePlaces 0 (m : Int) 1)) _ _ s
 rw [places_to1]
 exact wpAny_pure h
theorem pick_to1 (xs : List Value) : ∀ n, n ≤ xs.length → (List.range n).filterMap (fun k : Nat => xs.toArray[((0 : Int) + (k : Int) * 1).toNat]?) = xs.take n := by
 intro n
 induction n with
 | zero => intro _; rfl
 | succ n ih =>
  intro hn
  rw [List.range_succ, List.filterMap_append, ih (Nat.le_of_succ_le hn)]
  have : ((0 : Int) + (n : Int) * 1).toNat = n := by rw [Int.mul_one, Int.zero_add]; rfl
  simp only [filterMap_cons, List.filterMap_nil, this, List.getElem?_toArray, List.getElem?_eq_getElem (show n < xs.length from hn)]
  rw [List.take_succ_eq_append_getElem hn]
theorem getItem_tuple_to1 {s : Shared} {t sl : Addr} {vs : List Value} {u : Tok} {Q' E' : Value → Shared → Prop} (ht : IsTup s.heap t vs.toArray) (hs : s.heap.IsSliceOf sl .none (.int (-1) u) .none) (h1 : 1 ≤ vs.length)
  (h : Q' (.ref s.heap.objs.size) { s with heap := s.heap.push { cls := .type "tuple", data := .seq (vs.take (vs.length - 1)).toArray } })
  (hsz : vs.length ≤ sizeLine) : wpAny (model G.prog G.w) A (getItem (.ref t) (.ref sl)) Q' E' s := by
 have hdrop : sizeOk (.seq (vs.take (vs.length - 1)).toArray) := by
  show (vs.take (vs.length - 1)).toArray.size ≤ sizeLine
  rw [size_toArray, length_take]
  exact Nat.le_trans (Nat.min_le_right _ _) hsz
 obtain ⟨os, hos, hcs, hds⟩ := id hs
 have hTs : s.TypeIs (.ref sl) "slice" := ⟨os, hos, hcs⟩
 unfold getItem
 try with_reducible refine wpAny_holding ?_
 first | refine wpAny_bind (wpAny_pure ?_) | skip
 refine wpAny_bind (wpAny_sequenceKey ht.typeIs (by decide) ?_)
 refine wpAny_bind (wpAny_callSpecial?_slot (name := ofString "__getitem__") ht.typeIs slot_tuple_getitem
  (wpAny_call_entry slot_tuple_getitem ht.typeIs entry_tuple_getitem ?_ (args_tuple_getitem _ _)))
 show wpAny _ _ (Builtin.Tuple.tupleItemsOf (.ref t) >>= _) _ _ s
 refine wpAny_bind (tupleItemsOf_ ht ?_)
 refine wpAny_bind (wpAny_typeOf hTs ?_)
 rw [if_pos (by decide)]
 rw [show vs.toArray.size = vs.length from size_toArray]
 refine wpAny_bind (sliceApplied_to1 hs h1 ?_)
 have hno : ¬ (((0 : Int) == 0 && (1 : Int) == 1 && (vs.length - 1) == vs.length) = true) := by
  have : (vs.length - 1 == vs.length) = false := by rw [beq_eq_false_iff_ne]; exact Nat.ne_of_lt (Nat.sub_lt h1 Nat.zero_lt_one)
  rw [this]; simp
 show wpAny _ _ (if ((0 : Int) == 0 && (1 : Int) == 1 && (vs.length - 1) == vs.length) = true then _ else _) _ _ s
 rw [if_neg hno, pick_to1 vs _ (Nat.sub_le _ _)]
 first
  | exact wpAny_bind (m := Builtin.Tuple.tupleExact _) (wpAny_newObj_type (wpAny_pure ⟨_, rfl, wpAny_pure h⟩) hdrop)
  | exact wpAny_bind (wpAny_bind (m := Builtin.Tuple.tupleExact _) (wpAny_newObj_type (wpAny_pure ⟨_, rfl, wpAny_pure h⟩) hdrop))
end
end
section
section
variable {α β : Type}
theorem picked_xy {b : Array UInt8} {x y : Int} (h0 : 0 ≤ x) (h1 : x ≤ y) (h2 : y ≤ b.size) : KBy.picked b (some x) (some y) = b.extract x.toNat y.toNat := by
 obtain ⟨m, rfl⟩ := Int.eq_ofNat_of_zero_le h0
 obtain ⟨n, rfl⟩ := Int.eq_ofNat_of_zero_le (Int.le_trans h0 h1)
 have h1 := Int.ofNat_le.mp h1
 have h2 := Int.ofNat_le.mp h2
 rw [KBc.picked_eq]
 show ((b.toList.drop (clipAt b.size (m : Int))).take (clipAt b.size (n : Int) - clipAt b.size (m : Int))).toArray = _
 rw [clipAt_nat, clipAt_nat, Nat.min_eq_left h2, Nat.min_eq_left (Nat.le_trans h1 h2)]
 apply Array.ext'
 rw [Array.toList_extract, List.extract_eq_take_drop]
 rfl
theorem getItem_bytes_slice {s : Shared} {b : Array UInt8} {t : Tok} {sl : Addr} {x y : Int} {u u' : Tok} {Q' E' : Value → Shared → Prop} (hs : s.heap.IsSliceOf sl (.int x u) (.int y u') .none) (h0 : 0 ≤ x) (h1 : x ≤ y) (h2 : y ≤ b.size) (hz : b.size ≤ lstLine)
  (h : ∀ t' tk, Q' (.bytes (b.extract x.toNat y.toNat) t') { s with toks := tk }) : wpAny (model G.prog G.w) A (getItem (.bytes b t) (.ref sl)) Q' E' s :=
 getItem_meets (typeIs_bytes _ _ _) (by decide) FB.slot_bytes_getitem FB.entry_bytes_getitem (FB.args_bytes_getitem_2 _ _) (KBc.meets_slice2 b t sl (.int x u) (.int y u'))
  ⟨hs, Nat.le_trans (KBc.size_picked_le b _ _) (Nat.le_trans hz lstLine_le), fun t' k => (picked_xy h0 h1 h2).symm ▸ h t' k⟩
theorem s_subI {value slice : Expr} {o i : Value} {vo : V} {k : Int} {Q : V → DS → Prop} (ro : VR G g ad vo o) (ri : VR G g ad (.int k) i) (h : subI vo k st.mu fun v => Q v st) : WV G cx A ex (subscriptTail value slice o i) Q X g ad st := by
 have idx : (oElim (asLst st.mu vo) fun l => chk (natLt k (2 ^ 63)) (oElim l[k.toNat]? fun v => Q v st)) → WV G cx A ex (subscriptTail value slice o i) Q X g ad st := fun h =>
  oE_e h fun l e h => chk_e h fun h1 h => oE_e h fun v h3 h => fun s Q' E' R hg kk he => R.list_e ro e fun t vs it p => by
   obtain ⟨val, h5, rv⟩ := p.get h3
   have h1 := natLt_iff.mp h1
   exact ri.int_e fun u => wpV_tail it.typeIs slot_list_getitem.lookup (wpAny_getItem_list it h1.1 h1.2 ((List.getElem?_toArray ..).trans h5) (kk _ g ad st _ (Sub.refl g) (prefix_refl _) ⟨v, rv.lift, h⟩ R hg rfl)) (subscripted_ops ..)
 cases vo with
 | tup l =>
  exact chk_e h fun h1 h => oE_e h fun j h3 h => oE_e h fun v h4 h => fun s Q' E' R hg kk he => R.tup_e ro fun t vs it p => by
   obtain ⟨val, h5, rv⟩ := p.get h4
   have h1 := absLt_iff.mp h1
   exact ri.int_e fun u => wpV_tail it.typeIs slot_tuple_getitem.lookup (getItem_tuple it h1.1 h1.2 (by rw [size_toArray, ← p.len]; exact h3) ((List.getElem?_toArray ..).trans h5) (kk _ g ad st _ (Sub.refl g) (prefix_refl _) ⟨v, rv.lift, h⟩ R hg rfl)) (subscripted_ops ..)
 | _ => exact idx h
theorem s_subS {value slice : Expr} {o i : Value} {vo : V} {lo hi sp : Option Int} {Q : V → DS → Prop} (ro : VR G g ad vo o) (ri : VR G g ad (.slc lo hi sp) i) (h : subS vo lo hi sp st.mu fun v => Q v st) : WV G cx A ex (subscriptTail value slice o i) Q X g ad st := by
 have cut : (oElim (asLst st.mu vo) fun l => chk (sp != some 0) (chk (Nat.ble l.length lstLine) (Q (.lst (pickV l lo hi sp)) st))) → WV G cx A ex (subscriptTail value slice o i) Q X g ad st := fun h =>
  oE_e h fun l e h => chk_e h fun h1 h => fun s Q' E' R hg kk he => R.list_e ro e fun t vs it p => ri.slc_e fun sl a b c e pl pu pk => by
   obtain ⟨S, R'⟩ := R.frozen (o := { cls := .type "list", data := .seq (slicePick vs.toArray lo hi sp) }) rfl
   refine wpV_tail it.typeIs slot_list_getitem.lookup (wpAny_getItem_list_slice it ⟨_, R.old e, rfl, rfl⟩ pl pu pk (bne_iff_ne.mp h1) ?_ (by rw [size_toArray, ← p.len]; exact Nat.le_trans (chk_le h).1 lstLine_le)) (subscripted_ops ..)
   exact kk _ _ ad st _ S (prefix_refl _) ⟨_, .lst ⟨_, by rw [upd_self]⟩ ((p.mono S (prefix_refl _)).pick lo hi sp), (chk_le h).2⟩ R' hg rfl
 cases vo with
 | tup l =>
  refine chk_e h fun h0 h => ?_
  have h0 := Bool.and_eq_true_iff.mp h0
  have h00 := Bool.and_eq_true_iff.mp h0.1
  have e1 := Option.isNone_iff_eq_none.mp h00.1
  have e2 := Option.isNone_iff_eq_none.mp h0.2
  have e3 := eq_of_beq h00.2
  subst e1 e2 e3
  obtain ⟨h1, h⟩ := chk_le h
  exact fun s Q' E' R hg kk he => R.tup_e ro fun t vs it p => ri.slc_e fun sl a b c e pl pu pk => by
   cases pl; cases pk
   cases pu with
   | int _ u =>
    obtain ⟨S, R'⟩ := R.frozen (o := { cls := .type "tuple", data := .seq (vs.take (vs.length - 1)).toArray }) rfl
    refine wpV_tail it.typeIs slot_tuple_getitem.lookup (getItem_tuple_to1 it ⟨_, R.old e, rfl, rfl⟩ (p.len ▸ Nat.le_of_lt h1) ?_ (p.len ▸ Nat.le_trans (chk_le h).1 lstLine_le)) (subscripted_ops ..)
    exact kk _ _ ad st _ S (prefix_refl _) ⟨_, .tup ⟨_, upd_self _ _ _⟩ (p.len ▸ (p.mono S (prefix_refl _)).take (l.length - 1)), (chk_le h).2⟩ R' hg rfl
 | bytes b =>
  exact oE_e h fun x e1 h => oE_e h fun y e2 h => chk_e h fun h0 h => fun s Q' E' R hg kk he => ro.bytes_e fun t => ri.slc_e fun sl a c d e pl pu pk => by
   have e0 := Option.isNone_iff_eq_none.mp h0
   subst e0 e1 e2
   obtain ⟨h1, h⟩ := chk_dec h
   obtain ⟨h2, h⟩ := chk_dec h
   obtain ⟨h3, h⟩ := chk_dec h
   cases pl; cases pu; cases pk
   exact wpV_tail (typeIs_bytes _ _ _) FB.slot_bytes_getitem.lookup (getItem_bytes_slice ⟨_, R.old e, rfl, rfl⟩ h1 h2 h3 (chk_le h).1 fun t' tk => kk _ g ad st _ (Sub.refl g) (prefix_refl _) ⟨_, .bytes _ _, (chk_le h).2⟩ R hg rfl) (subscripted_ops ..)
 | _ => exact cut h
theorem s_subT {value slice : Expr} {o i : Value} {vo vi : V} {Q : V → DS → Prop} (C : CxOk G cx) (ro : VR G g ad vo o) (ri : VR G g ad vi i) (h : subT vo vi st.mu fun v => Q v st) : WV G cx A ex (subscriptTail value slice o i) Q X g ad st := by
 cases vi with
 | int k => exact s_subI ro ri h
 | slc lo hi sp => exact s_subS ro ri h
 | _ => exact False.elim h
end
end
section
section
variable {α β γ : Type}
theorem W.via' {m : Sem α} {f : α → Sem β} {t : Sem β} {Q : β → PH → List Addr → DS → Prop}
  (rule : ∀ (Q : β → Shared → Prop) (E : Value → Shared → Prop) (s : Shared), wpAny (model G.prog G.w) A m (fun a s₁ => wpAny (model G.prog G.w) A (f a) Q E s₁) E s → wpAny (model G.prog G.w) A t Q E s)
  (h : W G cx A ex m (fun a g' ad' st' => W G cx A ex (f a) Q X g' ad' st') X g ad st) : W G cx A ex t Q X g ad st :=
 fun s Q' E' R hg hq he => rule Q' E' s (h s _ _ R hg (fun a g' ad' st' s' s1 p1 w R' hg' ho => w s' _ _ R' hg' (fun b g₂ ad₂ st₂ s₂ s2 p2 q R₂ hg₂ ho₂ => hq _ g₂ ad₂ st₂ s₂ (s1.trans s2) (p1.trans p2) q R₂ hg₂ (ho₂.trans ho))
  fun c e s₂ x y hg₂ ho₂ => he c e s₂ x y hg₂ (ho₂.trans ho)) fun c e s' x y hg' ho => he c e s' x y hg' ho)
theorem W.via1 {m : Sem α} {t : Sem β} {Q : β → PH → List Addr → DS → Prop} {P : α → Shared → (β → Shared → Prop) → (Value → Shared → Prop) → Prop}
  (rule : ∀ (Q : β → Shared → Prop) (E : Value → Shared → Prop) (s : Shared), wpAny (model G.prog G.w) A m (fun a s₁ => P a s₁ Q E) E s → wpAny (model G.prog G.w) A t Q E s)
  (h : W G cx A ex m (fun a g' ad' st' => ∀ (s : Shared) (Q' : β → Shared → Prop) (E' : Value → Shared → Prop), Rel G cx ex g' ad' st' s.heap → s.gens = #[] →
   (∀ b g₂ ad₂ st₂ s₂, Sub g' g₂ → ad' <+: ad₂ → Q b g₂ ad₂ st₂ → Rel G cx ex g₂ ad₂ st₂ s₂.heap → s₂.gens = #[] → s₂.os = s.os → Q' b s₂) →
   (∀ c e s', X c → ExcIn G cx ex c e s'.heap → s'.gens = #[] → s'.os = s.os → E' (.ref e) s') → P a s Q' E') X g ad st) : W G cx A ex t Q X g ad st :=
 fun s Q' E' R hg hq he => rule Q' E' s (h s _ _ R hg (fun a g' ad' st' s' s1 p1 w R' hg' ho => w s' _ _ R' hg' (fun b g₂ ad₂ st₂ s₂ s2 p2 q R₂ hg₂ ho₂ => hq _ g₂ ad₂ st₂ s₂ (s1.trans s2) (p1.trans p2) q R₂ hg₂ (ho₂.trans ho))
  fun c e s₂ x y hg₂ ho₂ => he c e s₂ x y hg₂ (ho₂.trans ho)) fun c e s' x y hg' ho => he c e s' x y hg' ho)
theorem W.via2 {m : Sem α} {f : α → Sem β} {k : α → β → Sem γ} {t : Sem γ} {Q : γ → PH → List Addr → DS → Prop}
  (rule : ∀ (Q : γ → Shared → Prop) (E : Value → Shared → Prop) (s : Shared), wpAny (model G.prog G.w) A m (fun a s₁ => wpAny (model G.prog G.w) A (f a) (fun b s₂ => wpAny (model G.prog G.w) A (k a b) Q E s₂) E s₁) E s → wpAny (model G.prog G.w) A t Q E s)
  (h : W G cx A ex m (fun a g' ad' st' => W G cx A ex (f a) (fun b g₂ ad₂ st₂ => W G cx A ex (k a b) Q X g₂ ad₂ st₂) X g' ad' st') X g ad st) : W G cx A ex t Q X g ad st :=
 W.via1 rule (W.mono h (fun a g' ad' st' _ _ w s Q' E' R hg hq he => w s _ _ R hg (fun b g₂ ad₂ st₂ s₂ s2 p2 w2 R₂ hg₂ ho₂ => w2 s₂ _ _ R₂ hg₂ (fun c g₃ ad₃ st₃ s₃ s3 p3 q R₃ hg₃ ho₃ => hq c g₃ ad₃ st₃ s₃ (s2.trans s3) (p2.trans p3) q R₃ hg₃ (ho₃.trans ho₂))
  fun c e s' x y hg' ho => he c e s' x y hg' (ho.trans ho₂)) he) fun _ x => x)
noncomputable def Sd (G : Gd) (cx : Cx) (A : Around) (ex : List (Addr × Obj)) (X : Str → Prop) (nc : NC) (env : Env) (t : Sem Value) (F : (V → DS → Prop) → DS → Prop) : Prop :=
 ∀ Q g ad st, EnvOk G cx ex g ad nc env → F Q st → WV G cx A ex t Q X g ad st
noncomputable def Sb (G : Gd) (cx : Cx) (A : Around) (ex : List (Addr × Obj)) (X : Str → Prop) (nc : NC) (env : Env) (t : Sem Bool) (F : (Bool → DS → Prop) → DS → Prop) : Prop :=
 ∀ Q g ad st, EnvOk G cx ex g ad nc env → F Q st → WB G cx A ex t Q X g ad st
noncomputable def Sl (G : Gd) (cx : Cx) (A : Around) (ex : List (Addr × Obj)) (X : Str → Prop) (nc : NC) (env : Env) (t : Sem (List Value)) (F : (List V → DS → Prop) → DS → Prop) : Prop :=
 ∀ Q g ad st, EnvOk G cx ex g ad nc env → F Q st → W G cx A ex t (fun vals g' ad' st' => ∃ vs, VRs G g' ad' vs vals ∧ Q vs st') X g ad st
variable {F₁ F₂ F₃ : (V → DS → Prop) → DS → Prop} {B₁ B₂ : (Bool → DS → Prop) → DS → Prop}
theorem Sd.go {t : Sem Value} {Q : Value → PH → List Addr → DS → Prop} {P : V → DS → Prop} (x : Sd G cx A ex X nc env t F₁) (N : EnvOk G cx ex g ad nc env) (h : F₁ P st)
  (k : ∀ a v g' ad' st', Sub g g' → ad <+: ad' → EnvOk G cx ex g' ad' nc env → VR G g' ad' v a → P v st' → Q a g' ad' st') : W G cx A ex t Q X g ad st :=
 W.mono (x P g ad st N h) (fun a g' ad' st' S p ⟨v, q1, q2⟩ => k a v g' ad' st' S p (N.mono S p) q1 q2) fun _ x => x
theorem Sb.go {t : Sem Bool} {Q : Bool → PH → List Addr → DS → Prop} {P : Bool → DS → Prop} (x : Sb G cx A ex X nc env t B₁) (N : EnvOk G cx ex g ad nc env) (h : B₁ P st)
  (k : ∀ b g' ad' st', Sub g g' → ad <+: ad' → EnvOk G cx ex g' ad' nc env → P b st' → Q b g' ad' st') : W G cx A ex t Q X g ad st :=
 W.mono (x P g ad st N h) (fun a g' ad' st' S p q => k a g' ad' st' S p (N.mono S p) q) fun _ x => x
theorem r_BinOp {l e : Expr} {op pos} (C : CxOk G cx) (O : AOk cx A r) (h1 : Sd G cx A ex X nc env (eval l env) F₁) (h2 : Sd G cx A ex X nc env (eval e env) F₂) :
  Sd G cx A ex X nc env (eval (.BinOp l op e pos) env) (fun Q st => F₁ (fun a st => F₂ (fun b st => binT op a b st.mu fun v => Q v st) st) st) := fun Q g ad st N h =>
 W.via2 (fun Q E s => wpAny_BinOp) (h1.go N h fun a v g' ad' st' S p N' ra h => h2.go N' h fun b w g₂ ad₂ st₂ S₂ p₂ N₂ rb h => s_binT C O (ra.mono S₂ p₂) rb h)
theorem s_cmpB {op : CmpOp} {a b : Value} {va vb : V} {Q : Bool → DS → Prop} (C : CxOk G cx) (O : AOk cx A r) (ra : VR G g ad va a) (rb : VR G g ad vb b) (h : c1T op va vb Q st) :
  W G cx A ex (compareOp op a b) (fun c g' ad' st' => WB G cx A ex (truthy c) Q X g' ad' st') X g ad st :=
 W.mono (s_cmpT C O ra rb h) (fun a g' ad' st' S p z => Exists.elim z fun c q => q.1 ▸ tru (.bool c) rfl q.2) fun _ x => x
theorem s_cmpV {op : CmpOp} {a b : Value} {va vb : V} {Q : V → DS → Prop} (C : CxOk G cx) (O : AOk cx A r) (ra : VR G g ad va a) (rb : VR G g ad vb b) (h : c1T op va vb (fun c => Q (.bool c)) st) : WV G cx A ex (compareOp op a b) Q X g ad st :=
 W.mono (s_cmpT C O ra rb h) (fun a g' ad' st' S p z => Exists.elim z fun c q => q.1 ▸ ⟨.bool c, .bool c, q.2⟩) fun _ x => x
theorem r_Compare1 {l e : Expr} {op pos} (C : CxOk G cx) (O : AOk cx A r) (h1 : Sd G cx A ex X nc env (eval l env) F₁) (h2 : Sd G cx A ex X nc env (eval e env) F₂) (hm : behindInMarks op e = false) :
  Sd G cx A ex X nc env (eval (.Compare l [op] [e] pos) env) (fun Q st => F₁ (fun a st => F₂ (fun b st => cmpT op a b st.mu fun c => Q (.bool c) st) st) st) := fun Q g ad st N h =>
 W.via2 (fun Q E s z => wpAny_Compare1 z hm) (h1.go N h fun a v g' ad' st' S p N' ra h => h2.go N' h fun b w g₂ ad₂ st₂ S₂ p₂ N₂ rb h => s_cmpV C O (ra.mono S₂ p₂) rb h)
theorem W.via3 {δ : Type} {m : Sem α} {f : α → Sem β} {k : α → β → Sem γ} {k₂ : α → β → γ → Sem δ} {t : Sem δ} {Q : δ → PH → List Addr → DS → Prop}
  (rule : ∀ (Q : δ → Shared → Prop) (E : Value → Shared → Prop) (s : Shared), wpAny (model G.prog G.w) A m (fun a s₁ => wpAny (model G.prog G.w) A (f a) (fun b s₂ => wpAny (model G.prog G.w) A (k a b) (fun c s₃ => wpAny (model G.prog G.w) A (k₂ a b c) Q E s₃) E s₂) E s₁) E s → wpAny (model G.prog G.w) A t Q E s)
  (h : W G cx A ex m (fun a g' ad' st' => W G cx A ex (f a) (fun b g₂ ad₂ st₂ => W G cx A ex (k a b) (fun c g₃ ad₃ st₃ => W G cx A ex (k₂ a b c) Q X g₃ ad₃ st₃) X g₂ ad₂ st₂) X g' ad' st') X g ad st) : W G cx A ex t Q X g ad st :=
 W.via1 rule (W.mono h (fun a g' ad' st' _ _ w s Q' E' R hg hq he => w s _ _ R hg (fun b g₂ ad₂ st₂ s₂ s2 p2 w2 R₂ hg₂ ho₂ => w2 s₂ _ _ R₂ hg₂ (fun c g₃ ad₃ st₃ s₃ s3 p3 w3 R₃ hg₃ ho₃ => w3 s₃ _ _ R₃ hg₃
   (fun d g₄ ad₄ st₄ s₄ s4 p4 q R₄ hg₄ ho₄ => hq d g₄ ad₄ st₄ s₄ ((s2.trans s3).trans s4) ((p2.trans p3).trans p4) q R₄ hg₄ (ho₄.trans (ho₃.trans ho₂)))
   fun c e s' x y hg' ho => he c e s' x y hg' (ho.trans (ho₃.trans ho₂)))
  fun c e s' x y hg' ho => he c e s' x y hg' (ho.trans ho₂)) he) fun _ x => x)
theorem rb_Compare1 {l e : Expr} {op pos} {whole : Sem Value} (C : CxOk G cx) (O : AOk cx A r) (h1 : Sd G cx A ex X nc env (eval l env) F₁) (h2 : Sd G cx A ex X nc env (eval e env) F₂) (hm : behindInMarks op e = false) :
  Sb G cx A ex X nc env (isTrue (.Compare l [op] [e] pos) env whole) (fun Q st => F₁ (fun a st => F₂ (fun b st => c1T op a b Q st) st) st) := fun Q g ad st N h =>
 W.via3 (fun Q E s z => wpAny_isTrue_Compare1 z hm) (h1.go N h fun a v g' ad' st' S p N' ra h => h2.go N' h fun b w g₂ ad₂ st₂ S₂ p₂ N₂ rb h => s_cmpB C O (ra.mono S₂ p₂) rb h)
theorem r_Compare2 {l e e' : Expr} {op op' pos} (C : CxOk G cx) (O : AOk cx A r) (h1 : Sd G cx A ex X nc env (eval l env) F₁) (h2 : Sd G cx A ex X nc env (eval e env) F₂) (h3 : Sd G cx A ex X nc env (eval e' env) F₃) (hm : lastMarks [op, op'] [e, e'] = false) :
  Sd G cx A ex X nc env (eval (.Compare l [op, op'] [e, e'] pos) env) (fun Q st => F₁ (fun a st => F₂ (fun b st => c1T op a b (fun c st => brT c (F₃ (fun d st => cmpT op' b d st.mu fun c => Q (.bool c) st) st) (Q (.bool false) st)) st) st) st) := fun Q g ad st N h =>
 W.via' (fun Q E s z => Compare_chain z hm) (h1.go N h fun a v g' ad' st' S p N' ra h =>
  W.via1 (P := fun b s₁ Q E => wpAny (model G.prog G.w) A (compareOp op a b) (fun c s₂ => wpAny (model G.prog G.w) A (truthy c) (fun t s₃ => if t then wpAny (model G.prog G.w) A (compareChain pos b [op'] [eval e' env]) Q E s₃ else Q c s₃) E s₂) E s₁) (fun Q E s z => chain_link z)
   (h2.go N' h fun b w g₂ ad₂ st₂ S₂ p₂ N₂ rb h s Q' E' R hg hq he => s_cmpT C O (ra.mono S₂ p₂) rb h s _ _ R hg (fun c g₃ ad₃ st₃ s₃ S₃ p₃ z R₃ hg₃ ho₃ => by
    obtain ⟨c', hc, h⟩ := z
    subst hc
    refine wpAny_truthy_bool ?_
    cases c' with
    | false => exact hq _ g₃ ad₃ st₃ _ S₃ p₃ ⟨_, .bool false, h⟩ R₃ hg₃ ho₃
    | true =>
     exact chain_last (h3 _ _ _ _ (N₂.mono S₃ p₃) (h) s₃ _ _ R₃ hg₃ (fun d g₄ ad₄ st₄ s₄ S₄ p₄ z R₄ hg₄ ho₄ => Exists.elim z fun x z =>
      s_cmpV C O (rb.mono (S₃.trans S₄) (p₃.trans p₄)) z.1 z.2 s₄ _ _ R₄ hg₄ (fun q g₅ ad₅ st₅ s₅ S₅ p₅ h R₅ hg₅ ho₅ => hq _ g₅ ad₅ st₅ _ ((S₃.trans S₄).trans S₅) ((p₃.trans p₄).trans p₅) h R₅ hg₅ (ho₅.trans (ho₄.trans ho₃)))
       fun c e s' x y hg' ho => he c e s' x y hg' (ho.trans (ho₄.trans ho₃))) fun c e s' x y hg' ho => he c e s' x y hg' (ho.trans ho₃))) he))
end
end
section
section
variable {α β γ : Type}
variable {F F₁ F₂ F₃ : (V → DS → Prop) → DS → Prop} {B₁ B₂ B₃ : (Bool → DS → Prop) → DS → Prop}
theorem W.ite {t : Sem β} {m : Sem Bool} {t₁ t₂ : Bool → Sem β} {Q : β → PH → List Addr → DS → Prop}
  (rule : ∀ (Q : β → Shared → Prop) (E : Value → Shared → Prop) (s : Shared), wpAny (model G.prog G.w) A m (fun c s₁ => wpAny (model G.prog G.w) A (t₁ c) Q E s₁) E s → wpAny (model G.prog G.w) A t Q E s)
  (h : W G cx A ex m (fun c g' ad' st' => W G cx A ex (t₁ c) Q X g' ad' st') X g ad st) : W G cx A ex t Q X g ad st := W.via' rule h
theorem rb_Compare2 {l e e' : Expr} {op op' pos} {whole : Sem Value} (C : CxOk G cx) (O : AOk cx A r) (h1 : Sd G cx A ex X nc env (eval l env) F₁) (h2 : Sd G cx A ex X nc env (eval e env) F₂) (h3 : Sd G cx A ex X nc env (eval e' env) F₃) (hm : lastMarks [op, op'] [e, e'] = false) :
  Sb G cx A ex X nc env (isTrue (.Compare l [op, op'] [e, e'] pos) env whole) (fun Q st => F₁ (fun a st => F₂ (fun b st => c1T op a b (fun c st => brT c (F₃ (fun d st => c1T op' b d Q st) st) (Q false st)) st) st) st) := fun Q g ad st N h =>
 W.via' (fun Q E s z => isTrue_chain z hm) (h1.go N h fun a v g' ad' st' S p N' ra h =>
  W.via1 (P := fun b s₁ Q E => wpAny (model G.prog G.w) A (compareOp op a b) (fun c s₂ => wpAny (model G.prog G.w) A (truthy c) (fun t s₃ => if t then wpAny (model G.prog G.w) A (testChain pos b [op'] [eval e' env]) Q E s₃ else Q false s₃) E s₂) E s₁) (fun Q E s z => test_link z)
   (h2.go N' h fun b w g₂ ad₂ st₂ S₂ p₂ N₂ rb h s Q' E' R hg hq he => s_cmpT C O (ra.mono S₂ p₂) rb h s _ _ R hg (fun c g₃ ad₃ st₃ s₃ S₃ p₃ z R₃ hg₃ ho₃ => by
    obtain ⟨c', hc, h⟩ := z
    subst hc
    refine wpAny_truthy_bool ?_
    cases c' with
    | false => exact hq _ g₃ ad₃ st₃ _ S₃ p₃ (h) R₃ hg₃ ho₃
    | true =>
     exact test_last (h3 _ _ _ _ (N₂.mono S₃ p₃) (h) s₃ _ _ R₃ hg₃ (fun d g₄ ad₄ st₄ s₄ S₄ p₄ z R₄ hg₄ ho₄ => Exists.elim z fun x z =>
      s_cmpB C O (rb.mono (S₃.trans S₄) (p₃.trans p₄)) z.1 z.2 s₄ _ _ R₄ hg₄ (fun q g₅ ad₅ st₅ s₅ S₅ p₅ k R₅ hg₅ ho₅ =>
       k s₅ _ _ R₅ hg₅ (fun b g₆ ad₆ st₆ s₆ S₆ p₆ qb R₆ hg₆ ho₆ => hq _ g₆ ad₆ st₆ _ (((S₃.trans S₄).trans S₅).trans S₆) (((p₃.trans p₄).trans p₅).trans p₆) qb R₆ hg₆ (ho₆.trans (ho₅.trans (ho₄.trans ho₃))))
        fun c e s' x y hg' ho => he c e s' x y hg' (ho.trans (ho₅.trans (ho₄.trans ho₃))))
       fun c e s' x y hg' ho => he c e s' x y hg' (ho.trans (ho₄.trans ho₃))) fun c e s' x y hg' ho => he c e s' x y hg' (ho.trans ho₃))) he))
noncomputable def tstT (Q : Bool → DS → Prop) (v : V) (st : DS) : Prop := oElim (truV v) fun b => Q b st
theorem rb_plain {e : Expr} {whole : Sem Value} (h : Sd G cx A ex X nc env whole F) (he : isTrue e env whole = (do let v ← whole; PySem.standAt e.pos; PySem.holding [v] (truthy v))) :
  Sb G cx A ex X nc env (isTrue e env whole) (fun Q st => F (tstT Q) st) := fun Q g ad st N k =>
 W.via' (fun Q E s z => isTrue_plain z he) (h.go N k fun a v g' ad' st' S p N' ra h => oE_e h fun b e h => tru ra e h)
theorem rb_not {x : Expr} {pos} {whole : Sem Value} (h : Sb G cx A ex X nc env (isTrue x env (eval x env)) B₁) : Sb G cx A ex X nc env (isTrue (.UnaryOp .Not x pos) env whole) (fun Q st => B₁ (fun c => Q (!c)) st) := fun Q g ad st N k =>
 fun s Q' E' R hg hq he => isTrue_not (h _ g ad st N k s _ _ R hg (fun c g' ad' st' s' S p q R' hg' ho => hq _ g' ad' st' s' S p q R' hg' ho) he)
theorem rb_and_nil {pos} {whole : Sem Value} : Sb G cx A ex X nc env (isTrue (.BoolOp .And [] pos) env whole) (fun Q st => Q true st) := fun Q g ad st N k s Q' E' R hg hq he =>
 isTrue_and_nil (hq _ g ad st s (Sub.refl g) (prefix_refl _) k R hg rfl)
theorem rb_or_nil {pos} {whole : Sem Value} : Sb G cx A ex X nc env (isTrue (.BoolOp .Or [] pos) env whole) (fun Q st => Q false st) := fun Q g ad st N k s Q' E' R hg hq he =>
 isTrue_or_nil (hq _ g ad st s (Sub.refl g) (prefix_refl _) k R hg rfl)
theorem rb_and {x : Expr} {rest pos} {whole : Sem Value} (h1 : Sb G cx A ex X nc env (isTrue x env (eval x env)) B₁) (h2 : Sb G cx A ex X nc env (isTrue (.BoolOp .And rest pos) env whole) B₂) :
  Sb G cx A ex X nc env (isTrue (.BoolOp .And (x :: rest) pos) env whole) (fun Q st => B₁ (fun c st => brT c (B₂ Q st) (Q false st)) st) := fun Q g ad st N k =>
 W.via1 (P := fun c s₁ Q E => if c then wpAny (model G.prog G.w) A (isTrue (.BoolOp .And rest pos) env whole) Q E s₁ else Q false s₁) (fun Q E s z => isTrue_and z)
  (h1.go N k fun c g' ad' st' S p N' k s Q' E' R hg hq he => by
   cases c with
   | false => exact hq _ g' ad' st' s (Sub.refl _) (prefix_refl _) (k) R hg rfl
   | true => exact h2 _ _ _ _ N' (k) s Q' E' R hg hq he)
theorem rb_or {x : Expr} {rest pos} {whole : Sem Value} (h1 : Sb G cx A ex X nc env (isTrue x env (eval x env)) B₁) (h2 : Sb G cx A ex X nc env (isTrue (.BoolOp .Or rest pos) env whole) B₂) :
  Sb G cx A ex X nc env (isTrue (.BoolOp .Or (x :: rest) pos) env whole) (fun Q st => B₁ (fun c st => brT c (Q true st) (B₂ Q st)) st) := fun Q g ad st N k =>
 W.via1 (P := fun c s₁ Q E => if c then Q true s₁ else wpAny (model G.prog G.w) A (isTrue (.BoolOp .Or rest pos) env whole) Q E s₁) (fun Q E s z => isTrue_or z)
  (h1.go N k fun c g' ad' st' S p N' k s Q' E' R hg hq he => by
   cases c with
   | true => exact hq _ g' ad' st' s (Sub.refl _) (prefix_refl _) (k) R hg rfl
   | false => exact h2 _ _ _ _ N' (k) s Q' E' R hg hq he)
theorem rb_IfExp {t b e : Expr} {pos} {whole : Sem Value} (h1 : Sb G cx A ex X nc env (isTrue t env (eval t env)) B₁) (h2 : Sb G cx A ex X nc env (isTrue b env (eval b env)) B₂) (h3 : Sb G cx A ex X nc env (isTrue e env (eval e env)) B₃) :
  Sb G cx A ex X nc env (isTrue (.IfExp t b e pos) env whole) (fun Q st => B₁ (fun c st => brT c (B₂ Q st) (B₃ Q st)) st) := fun Q g ad st N k =>
 W.via1 (P := fun c s₁ Q E => if c then wpAny (model G.prog G.w) A (isTrue b env (eval b env)) Q E s₁ else wpAny (model G.prog G.w) A (isTrue e env (eval e env)) Q E s₁) (fun Q E s z => isTrue_IfExp z)
  (h1.go N k fun c g' ad' st' S p N' k s Q' E' R hg hq he => by
   cases c with
   | true => exact h2 _ _ _ _ N' (k) s Q' E' R hg hq he
   | false => exact h3 _ _ _ _ N' (k) s Q' E' R hg hq he)
theorem r_IfExp {t b e : Expr} {pos} (h1 : Sb G cx A ex X nc env (isTrue t env (eval t env)) B₁) (h2 : Sd G cx A ex X nc env (eval b env) F₂) (h3 : Sd G cx A ex X nc env (eval e env) F₃) :
  Sd G cx A ex X nc env (eval (.IfExp t b e pos) env) (fun Q st => B₁ (fun c st => brT c (F₂ Q st) (F₃ Q st)) st) := fun Q g ad st N k =>
 W.via1 (P := fun c s₁ Q E => if c then wpAny (model G.prog G.w) A (eval b env) Q E s₁ else wpAny (model G.prog G.w) A (eval e env) Q E s₁) (fun Q E s z => IfExp_ z)
  (h1.go N k fun c g' ad' st' S p N' k s Q' E' R hg hq he => by
   cases c with
   | true => exact h2 _ _ _ _ N' (k) s Q' E' R hg hq he
   | false => exact h3 _ _ _ _ N' (k) s Q' E' R hg hq he)
theorem r_not {x : Expr} {pos} (h : Sd G cx A ex X nc env (eval x env) F) : Sd G cx A ex X nc env (eval (.UnaryOp .Not x pos) env) (fun Q st => F (tstT fun c => Q (.bool (!c))) st) := fun Q g ad st N k =>
 W.via' (fun Q E s z => UnaryOp_ z) (h.go N k fun a v g' ad' st' S p N' ra k => oE_e k fun b e k => fun s Q' E' R hg hq he =>
  not_of (tru (Q := fun c => Q (.bool (!c))) ra e k s _ _ R hg (fun c g' ad' st' s' S p q R' hg' ho => hq _ g' ad' st' s' S p ⟨_, .bool _, q⟩ R' hg' ho) he))
theorem r_neg {x : Expr} {pos} (h : Sd G cx A ex X nc env (eval x env) F) : Sd G cx A ex X nc env (eval (.UnaryOp .USub x pos) env) (fun Q st => F (fun v st => intP v fun i => Q (.int (-i)) st) st) := fun Q g ad st N k =>
 W.via' (fun Q E s z => UnaryOp_ z) (h.go N k fun a v g' ad' st' S p N' ra k => int_e ra k fun i t k => WV.roi (fun s Q' E' R hq => P.neg_int (hq _ _)) k)
theorem r_one {e : Expr} {op pos} (h : Sd G cx A ex X nc env (eval e env) F) : Sd G cx A ex X nc env (eval (.BoolOp op [e] pos) env) F := fun Q g ad st N k s Q' E' R hg hq he => BoolOp_one (h Q g ad st N k s Q' E' R hg hq he)
theorem r_and {e₁ e₂ : Expr} {rest pos} (h1 : Sd G cx A ex X nc env (eval e₁ env) F₁) (h2 : Sd G cx A ex X nc env (eval (.BoolOp .And (e₂ :: rest) pos) env) F₂) :
  Sd G cx A ex X nc env (eval (.BoolOp .And (e₁ :: e₂ :: rest) pos) env) (fun Q st => F₁ (fun v st => tstT (fun c st => brT c (F₂ Q st) (Q v st)) v st) st) := fun Q g ad st N k =>
 W.via1 (P := fun v s₁ Q E => wpAny (model G.prog G.w) A (truthy v) (fun c s₂ => if c then wpAny (model G.prog G.w) A (eval (.BoolOp .And (e₂ :: rest) pos) env) Q E s₂ else Q v s₂) E s₁) (fun Q E s z => BoolOp_and z)
  (h1.go N k fun a v g' ad' st' S p N' ra k => oE_e k fun b e k s Q' E' R hg hq he => tru (X := X) (ex := ex) (Q := fun c st => brT c (F₂ Q st) (Q v st)) ra e k s _ _ R hg (fun c g₂ ad₂ st₂ s₂ S₂ p₂ k R₂ hg₂ ho₂ => by
   cases c with
   | false => exact hq _ g₂ ad₂ st₂ s₂ S₂ p₂ ⟨v, ra.mono S₂ p₂, k⟩ R₂ hg₂ ho₂
   | true => exact h2 _ _ _ _ (N'.mono S₂ p₂) (k) s₂ Q' E' R₂ hg₂ (fun b g₃ ad₃ st₃ s₃ S₃ p₃ q R₃ hg₃ ho₃ => hq b g₃ ad₃ st₃ s₃ (S₂.trans S₃) (p₂.trans p₃) q R₃ hg₃ (ho₃.trans ho₂)) fun c e s' x y hg' ho => he c e s' x y hg' (ho.trans ho₂)) he)
theorem r_or {e₁ e₂ : Expr} {rest pos} (h1 : Sd G cx A ex X nc env (eval e₁ env) F₁) (h2 : Sd G cx A ex X nc env (eval (.BoolOp .Or (e₂ :: rest) pos) env) F₂) :
  Sd G cx A ex X nc env (eval (.BoolOp .Or (e₁ :: e₂ :: rest) pos) env) (fun Q st => F₁ (fun v st => tstT (fun c st => brT c (Q v st) (F₂ Q st)) v st) st) := fun Q g ad st N k =>
 W.via1 (P := fun v s₁ Q E => wpAny (model G.prog G.w) A (truthy v) (fun c s₂ => if c then Q v s₂ else wpAny (model G.prog G.w) A (eval (.BoolOp .Or (e₂ :: rest) pos) env) Q E s₂) E s₁) (fun Q E s z => BoolOp_or z)
  (h1.go N k fun a v g' ad' st' S p N' ra k => oE_e k fun b e k s Q' E' R hg hq he => tru (X := X) (ex := ex) (Q := fun c st => brT c (Q v st) (F₂ Q st)) ra e k s _ _ R hg (fun c g₂ ad₂ st₂ s₂ S₂ p₂ k R₂ hg₂ ho₂ => by
   cases c with
   | true => exact hq _ g₂ ad₂ st₂ s₂ S₂ p₂ ⟨v, ra.mono S₂ p₂, k⟩ R₂ hg₂ ho₂
   | false => exact h2 _ _ _ _ (N'.mono S₂ p₂) (k) s₂ Q' E' R₂ hg₂ (fun b g₃ ad₃ st₃ s₃ S₃ p₃ q R₃ hg₃ ho₃ => hq b g₃ ad₃ st₃ s₃ (S₂.trans S₃) (p₂.trans p₃) q R₃ hg₃ (ho₃.trans ho₂)) fun c e s' x y hg' ho => he c e s' x y hg' (ho.trans ho₂)) he)
noncomputable def dis (vs : List V) (P : Prop) : Prop := brS (Nat.ble vs.length lstLine && !vs.any V.isCel) P False
theorem dis_i {P : Prop} (h : dis vs P) : vs.length ≤ lstLine ∧ vs.any V.isCel = false ∧ P := by
 unfold dis at h
 cases q : (Nat.ble vs.length lstLine && !vs.any V.isCel) with
 | false => rw [q] at h; exact False.elim h
 | true =>
  rw [q] at h
  have z := Bool.and_eq_true_iff.mp q
  exact ⟨Nat.le_of_ble_eq_true z.1, Bool.not_eq_eq_eq_not.mp z.2, h⟩
theorem rl_nil {pos : Pos} : Sl G cx A ex X nc env (spliced (backTo pos (starEach [] env))) (fun Q st => Q [] st) := fun Q g ad st N k s Q' E' R hg hq he =>
 wpAny_items_nil (hq _ g ad st s (Sub.refl g) (prefix_refl _) ⟨[], .nil, k⟩ R hg rfl)
theorem rl_cons {pos : Pos} {e : Expr} {es : List Expr} {L₂ : (List V → DS → Prop) → DS → Prop} (h1 : Sd G cx A ex X nc env (eval e env) F₁) (h2 : Sl G cx A ex X nc env (spliced (backTo pos (starEach es env))) L₂) (he : starEach (e :: es) env = (false, eval e env) :: starEach es env) :
  Sl G cx A ex X nc env (spliced (backTo pos (starEach (e :: es) env))) (fun Q st => F₁ (fun v st => L₂ (fun vs st => Q (v :: vs) st) st) st) := fun Q g ad st N k =>
 W.via1 (P := fun v s₁ Q E => wpAny (model G.prog G.w) A (spliced (backTo pos (starEach es env))) (fun vs s₂ => Q (v :: vs) s₂) E s₁) (fun Q E s z => wpAny_items_cons z he)
  (h1.go N k fun a v g' ad' st' S p N' ra k s Q' E' R hg hq he => h2 _ _ _ _ N' k s _ _ R hg (fun vals g₂ ad₂ st₂ s₂ S₂ p₂ ⟨vs, rs, q⟩ R₂ hg₂ ho₂ => hq _ g₂ ad₂ st₂ s₂ S₂ p₂ ⟨v :: vs, .cons (ra.mono S₂ p₂) rs, q⟩ R₂ hg₂ ho₂) he)
theorem r_Tuple {es : List Expr} {k : Nat} {pos : Pos} {L : (List V → DS → Prop) → DS → Prop} (h1 : Sl G cx A ex X nc env (spliced (backTo pos (starEach es env))) L) :
  Sd G cx A ex X nc env (eval (.Tuple es k pos) env) (fun Q st => L (fun vs st => dis vs (Q (.tup vs) st)) st) := fun Q g ad st N h s Q' E' R hg hq he =>
 wpAny_Tuple (h1 _ _ _ _ N h s _ _ R hg (fun vals g' ad' st' s' S p z R' hg' ho => Exists.elim z fun vs z => ⟨by rw [← z.1.len]; exact Nat.le_trans (dis_i z.2).1 (by decide), by
  have rs := z.1
  have q := (dis_i z.2).2
  obtain ⟨S₂, R₂⟩ := R'.frozen (o := { cls := .type "tuple", data := .seq vals.toArray }) rfl
  exact hq _ _ ad' st' _ (S.trans S₂) p ⟨.tup vs, .tup ⟨_, upd_self _ _ _⟩ ((rs.close q.1).mono S₂ (prefix_refl _)), q.2⟩ R₂ hg' ho⟩) he)
theorem r_List {es : List Expr} {pos : Pos} {L : (List V → DS → Prop) → DS → Prop} (h1 : Sl G cx A ex X nc env (spliced (backTo pos (starEach es env))) L) :
  Sd G cx A ex X nc env (eval (.List es pos) env) (fun Q st => L (fun vs st => dis vs (Q (.lst vs) st)) st) := fun Q g ad st N h s Q' E' R hg hq he =>
 wpAny_List (h1 _ _ _ _ N h s _ _ R hg (fun vals g' ad' st' s' S p z R' hg' ho => Exists.elim z fun vs z => ⟨by rw [← z.1.len]; exact Nat.le_trans (dis_i z.2).1 (by decide), by
  have rs := z.1
  have q := (dis_i z.2).2
  obtain ⟨S₂, R₂⟩ := R'.frozen (o := { cls := .type "list", data := .seq vals.toArray }) rfl
  exact hq _ _ ad' st' _ (S.trans S₂) p ⟨.lst vs, .lst ⟨_, upd_self _ _ _⟩ ((rs.close q.1).mono S₂ (prefix_refl _)), q.2⟩ R₂ hg' ho⟩) he)
theorem r_Subscript {value slice : Expr} {pos : Pos} (C : CxOk G cx) (h1 : Sd G cx A ex X nc env (eval value env) F₁) (h2 : Sd G cx A ex X nc env (eval slice env) F₂) :
  Sd G cx A ex X nc env (eval (.Subscript value slice pos) env) (fun Q st => F₁ (fun a st => F₂ (fun b st => subT a b st.mu fun v => Q v st) st) st) := fun Q g ad st N h =>
 W.via2 (fun Q E s z => Subscript_ z) (h1.go N h fun a v g' ad' st' S p N' ra h => h2.go N' h fun b w g₂ ad₂ st₂ S₂ p₂ N₂ rb h => s_subT C (ra.mono S₂ p₂) rb h)
noncomputable def partOf : V → Option (Option Int)
 | .none => some none
 | .int i => some (some i)
 | _ => none
theorem partOf_is {v : V} {a : Value} {p : Option Int} (ra : VR G g ad v a) (h : partOf v = some p) : IsPart a p := by
 cases v with
 | none => exact ra.none_e (Option.some.inj h ▸ .none)
 | int i => exact ra.int_e fun t => Option.some.inj h ▸ .int _ _
 | _ => exact none_some h
theorem r_part_none {env : Env} : Sd G cx A ex X nc env (evalPart none env) (fun Q st => Q .none st) := fun Q g ad st N h s Q' E' R hg hq he => wpAny_evalPart_none (hq _ g ad st s (Sub.refl g) (prefix_refl _) ⟨.none, .none, h⟩ R hg rfl)
theorem r_part_some {env : Env} {e : Expr} (h : Sd G cx A ex X nc env (eval e env) F) : Sd G cx A ex X nc env (evalPart (some e) env) F := fun Q g ad st N k s Q' E' R hg hq he => wpAny_evalPart_some (h Q g ad st N k s Q' E' R hg hq he)
noncomputable def slcT (a b c : V) (Q : V → DS → Prop) (st : DS) : Prop := oElim (partOf a) fun x => oElim (partOf b) fun y => oElim (partOf c) fun z => Q (.slc x y z) st
theorem r_Slice {lo hi sp : Option Expr} {pos : Pos} (h1 : Sd G cx A ex X nc env (evalPart lo env) F₁) (h2 : Sd G cx A ex X nc env (evalPart hi env) F₂) (h3 : Sd G cx A ex X nc env (evalPart sp env) F₃) :
  Sd G cx A ex X nc env (eval (.Slice lo hi sp pos) env) (fun Q st => F₁ (fun a st => F₂ (fun b st => F₃ (fun c st => slcT a b c Q st) st) st) st) := fun Q g ad st N h =>
 W.via1 (P := fun l s₁ Q E => wpAny (model G.prog G.w) A (evalPart hi env) (fun u s₂ => wpAny (model G.prog G.w) A (evalPart sp env) (fun st s₃ =>
   Q (.ref s₃.heap.objs.size) { s₃ with heap := s₃.heap.push { cls := .type "slice", data := .fields #[l, u, st] } }) E s₂) E s₁) (fun Q E s z => wpAny_Slice z)
  (h1.go N h fun a v g' ad' st' S p N' ra h s Q' E' R hg hq he => h2 _ _ _ _ N' h s _ _ R hg (fun b g₂ ad₂ st₂ s₂ S₂ p₂ z R₂ hg₂ ho₂ => Exists.elim z fun w z => have rb := z.1; h3 _ _ _ _ (N'.mono S₂ p₂) z.2 s₂ _ _ R₂ hg₂ (fun c g₃ ad₃ st₃ s₃ S₃ p₃ z R₃ hg₃ ho₃ => Exists.elim z fun u z => have rc := z.1; oE_e z.2 fun x e1 q => oE_e q fun y e2 q => oE_e q fun z e3 q => by
    obtain ⟨S₄, R₄⟩ := R₃.frozen (o := { cls := .type "slice", data := .fields #[a, b, c] }) rfl
    exact hq _ _ ad₃ st₃ _ ((S₂.trans S₃).trans S₄) (p₂.trans p₃) ⟨.slc x y z, .slc (upd_self _ _ _) (partOf_is ra e1) (partOf_is rb e2) (partOf_is rc e3), q⟩ R₄ hg₃ (ho₃.trans ho₂))
   fun c e s' x y hg' ho => he c e s' x y hg' (ho.trans ho₂)) he)
end
end
section
noncomputable def fieldOk (K : Frag) (c x : Str) : Bool := match nsIn K mainGlobals c with
 | some (some (.ref C)) => plainGet K C x && hasDictIn K C && findIn K (.ref C) x == some none
 | _ => false
noncomputable def methodOk (K : Frag) (c x : Str) : Option Addr := match nsIn K mainGlobals c with
 | some (some (.ref C)) => (match findIn K (.ref C) x with
   | some (some (.ref f)) => if plainGet K C x && isFn K (.ref f) && keepIn K (.ref f) then some f else none
   | _ => none)
 | _ => none
theorem fieldOk_i {K : Frag} {c x : Str} {C : Addr} (h : fieldOk K c x = true) (e : nsIn K mainGlobals c = some (some (.ref C))) : plainGet K C x = true ∧ hasDictIn K C = true ∧ findIn K (.ref C) x = some none := by
 unfold fieldOk at h
 rw [e] at h
 have h := Bool.and_eq_true_iff.mp h
 have h1 := Bool.and_eq_true_iff.mp h.1
 exact ⟨h1.1, h1.2, eq_of_beq h.2⟩
theorem methodOk_i {K : Frag} {c x : Str} {f : Addr} (h : methodOk K c x = some f) : ∃ C, nsIn K mainGlobals c = some (some (.ref C)) ∧ findIn K (.ref C) x = some (some (.ref f)) ∧ plainGet K C x = true ∧ isFn K (.ref f) = true ∧ keepIn K (.ref f) = true := by
 unfold methodOk at h
 generalize nsIn K mainGlobals c = o at h
 cases o with
 | none => exact none_some h
 | some o => cases o with
  | none => exact none_some h
  | some v => cases v with
   | ref C =>
    replace h : (match findIn K (.ref C) x with
     | some (some (.ref f)) => if plainGet K C x && isFn K (.ref f) && keepIn K (.ref f) then some f else none
     | _ => none) = some f := h
    generalize e2 : findIn K (.ref C) x = o at h
    cases o with
    | none => exact none_some h
    | some o => cases o with
     | none => exact none_some h
     | some v => cases v with
      | ref f' =>
       replace h : (if plainGet K C x && isFn K (.ref f') && keepIn K (.ref f') then some f' else none) = some f := h
       cases q : plainGet K C x && isFn K (.ref f') && keepIn K (.ref f') with
       | false => rw [q] at h; exact none_some h
       | true =>
        rw [q] at h
        have e := Option.some.inj h
        subst e
        have q1 := Bool.and_eq_true_iff.mp q
        have q2 := Bool.and_eq_true_iff.mp q1.1
        exact ⟨C, rfl, e2, q2.1, q2.2, q1.2⟩
      | _ => exact none_some h
   | _ => exact none_some h
noncomputable def attrT (fd : Str → Str → Bool) (o : V) (x : Str) (mu : List M) (Q : V → Prop) : Prop := match o with
 | .inst c ns vs => chk (fd c x) (oElim ((ns.zip vs).lookup x) Q)
 | .cel j => oElim mu[j]? fun m => match m with
   | .inst c fs => chk (fd c x) (oElim (fs.lookup x) fun v => chk (!v.isBarr) (Q v))
   | _ => False
 | _ => False
theorem NsO.look {o : Obj} {m : Str → Option Value} (x : NsO o m) (n : Str) : lookIn n o = some (m n) := by
 obtain ⟨es, ep, d, k, f⟩ := x
 unfold lookIn
 rw [d]
 dsimp only
 rw [← f n]
 unfold nsFind findBy
 rw [← Array.find?_toList]
 cases q : List.find? (fun e => e.key.isStr n) es.toList with
 | some e => rfl
 | none =>
  dsimp only
  have : es.toList.any (·.refKey) = false := by
   rw [List.any_eq_false]
   intro e he
   obtain ⟨n, t, q⟩ := k e (Array.mem_toList_iff.mp he)
   unfold DictEntry.refKey
   rw [q]
   simp
  rw [this]
  rfl
theorem VR.handed {g : PH} {ad : List Addr} {v : V} {a : Value} (r : VR G g ad v a) : handedIn a = true :=
 VR.casesOn (motive_1 := fun _ v a _ => handedIn a = true) r rfl (fun _ => rfl) (fun _ _ => rfl) (fun _ _ => rfl) (fun _ _ => rfl) (fun _ _ => rfl) (fun _ _ => rfl) (fun _ _ _ _ _ _ _ _ => rfl) (fun _ => rfl) (fun _ => rfl) (fun _ _ _ => rfl) (fun _ _ _ _ => rfl) fun _ => rfl
theorem look_cons {β : Type} {x y : Str} {w : β} {l : List (Str × β)} : ((y, w) :: l).lookup x = if x == y then some w else l.lookup x := look_cons0
theorem zip_look {x : Str} {v : V} {ns : List Str} (h : (ns.zip vs).lookup x = some v) : ∃ i : Nat, ns[i]? = some x ∧ vs[i]? = some v := by
 induction ns generalizing vs with
 | nil => exact none_some h
 | cons n ns ih =>
  cases vs with
  | nil => exact none_some h
  | cons w vs =>
   replace h : (if x == n then some w else (ns.zip vs).lookup x) = some v := look_cons.symm.trans h
   cases q : x == n with
   | true => rw [q] at h; exact ⟨0, congrArg some (eq_of_beq q).symm, h⟩
   | false => rw [q] at h; exact Exists.elim (ih h) fun i z => ⟨i + 1, z⟩
section
variable {α β γ : Type}
variable {F F₁ F₂ F₃ : (V → DS → Prop) → DS → Prop} {B₁ B₂ B₃ : (Bool → DS → Prop) → DS → Prop}
@[elab_as_elim] theorem inst_e {c : Str} {ns : List Str} {a : Value} {P : Value → Prop} (R : Rel G cx ex g ad st h) (ra : VR G g ad (.inst c ns vs) a)
  (k : ∀ x C dx od m vals, nsIn G.K mainGlobals c = some (some (.ref C)) → InstAt h x (instObj C dx) C (some od) → NsO od m → NsHas m ns vals → VRs G g [] vs vals → P (.ref x)) : P a :=
 ra.inst_e fun a C dx od m vals e1 e2 e3 _ _ n q r => k a C dx od m vals e1 ⟨R.old e2, rfl, rfl, R.old e3⟩ n q r
@[elab_as_elim] theorem cel_e {j : Nat} {c : Str} {fs : List (Str × V)} {a : Value} {P : Value → Prop} (R : Rel G cx ex g ad st h) (ra : VR G g ad (.cel j) a) (hm : st.mu[j]? = some (.inst c fs))
  (k : ∀ x C dx od m, nsIn G.K mainGlobals c = some (some (.ref C)) → InstAt h x (instObj C dx) C (some od) → NsO od m → (∀ y v, fs.lookup y = some v → (∀ b, v ≠ .barr b) → ∃ val, m y = some val ∧ VR G g [] v val) → (∀ y, fs.lookup y = none → m y = none) → P (.ref x)) : P a :=
 ra.cel_e fun x ha => R.e fun oL cs fp I L MO => by
  obtain ⟨a', l, h1, h2, mr⟩ := MO.at hm
  have ea := Option.some.inj (h1.symm.trans ha)
  subst ea
  have at_ : ∀ {l' : List (Addr × Obj)} {p : Addr × Obj}, l = l' → p ∈ l' → h.get? p.1 = some p.2 := fun {l' p} e hp => I.cur p (lv_fp (mem_flat h2 (e.symm ▸ hp)))
  refine mr.inst_e (fun C dx od m e e1 e2 e3 e4 n z f f' => ?_) fun C dx od m x₀ b y e e1 e2 e3 e4 n f1 f2 f3 => ?_
  ·exact k _ C dx od m e1 ⟨at_ e (.head _), rfl, rfl, at_ e (.tail _ (.head _))⟩ n (fun y v e _ => (f y v e).2) f'
  ·refine k _ C dx od m e1 ⟨at_ e (.head _), rfl, rfl, at_ e (.tail _ (.head _))⟩ n (fun y v e q => ?_) fun y e => ?_
   ·rw [f1, look_cons] at e
    cases t : y == x₀ with
    | true => rw [t] at e; exact absurd (Option.some.inj e).symm (q b)
    | false => rw [t] at e; exact none_some e
   ·rw [f1, look_cons] at e
    cases t : y == x₀ with
    | true => rw [t] at e; exact none_some e.symm
    | false => exact f3 y fun z => ne_of_beq_false t z
theorem isBarr_ne {v : V} (h : v.isBarr = false) (b : Array UInt8) : v ≠ .barr b := fun e => by subst e; exact Bool.noConfusion h
theorem s_getAttr {fd : Str → Str → Bool} {o : Value} {v : V} {x : Str} {Q : V → DS → Prop} (hfd : ∀ c x, fd c x = true → fieldOk G.K c x = true) (C : CxOk G cx) (ro : VR G g ad v o) (h : attrT fd v x st.mu fun v => Q v st) : WV G cx A ex (getAttr o x true) Q X g ad st := by
 cases v with
 | inst c ns vs =>
  refine chk_e h fun hf h => oE_e h fun v hl hq => WV.ro v (fun s Q' E' R k => inst_e R ro fun a Ca dx od m vals e1 I n m' rr => ?_) hq
  have f := fieldOk_i (hfd _ _ hf) e1
  obtain ⟨i, i1, i2⟩ := zip_look hl
  obtain ⟨val, w1, w2⟩ := rr.get i2
  exact get_value (R.kin C) I (plainGet_of f.1).1 (findObj_own f.2.1 f.2.2 rfl (by rw [n.look, m'.2.1 i x val i1 w1])) w2.handed (k _ _ w2.lift)
 | cel j =>
  refine oE_e h fun m hm h => ?_
  cases m with
  | inst c fs =>
   refine chk_e h fun hf h => oE_e h fun v hl h => WV.ro v (fun s Q' E' R k => cel_e R ro hm fun a Ca dx od m e1 I n f f' => ?_) (chk_not h).2
   obtain ⟨val, w1, w2⟩ := f x v hl (isBarr_ne (chk_not h).1)
   have f := fieldOk_i (hfd _ _ hf) e1
   exact get_value (R.kin C) I (plainGet_of f.1).1 (findObj_own f.2.1 f.2.2 rfl (by rw [n.look, w1])) w2.handed (k _ _ w2.lift)
  | _ => exact False.elim h
 | _ => exact False.elim h
noncomputable def baseOk : Expr → Bool
 | .Call (.Name id _) [] [] _ => id != "super"
 | _ => true
theorem base_plain {o : Expr} {attr : Str} {env : Env} {whole : Sem Value} (h : baseOk o = true) : attributeBase o attr env whole = whole := by
 cases o with
 | Call f es kw pos =>
  cases f with
  | Name id p =>
   cases es with
   | cons _ _ => rfl
   | nil => cases kw with
    | cons _ _ => rfl
    | nil =>
     have h' : (id != ("super" : Str)) = true := h
     unfold attributeBase
     show (if (id != ("super" : Str) || attr == ("__class__" : Str) || env.kindOf ("super" : Str) != some .globalImplicit || env.kindOf ("__class__" : Str) != some .free) = true then whole else _) = whole
     rw [h']
     rfl
  | _ => rfl
 | _ => rfl
theorem r_Attribute {fd : Str → Str → Bool} {value : Expr} {attr : Str} {pos : Pos} (hfd : ∀ c x, fd c x = true → fieldOk G.K c x = true) (C : CxOk G cx) (hb : baseOk value = true) (h1 : Sd G cx A ex X nc env (eval value env) F₁) :
  Sd G cx A ex X nc env (eval (.Attribute value attr pos) env) (fun Q st => F₁ (fun o st => attrT fd o attr st.mu fun v => Q v st) st) := fun Q g ad st N h =>
 W.via' (fun Q E s z => Attribute_any_ z (by rw [arm_eval_Attribute, base_plain hb])) (h1.go N h fun a v g' ad' st' S p N' ra h => s_getAttr hfd C ra h)
noncomputable def noStar : List Expr → Bool
 | [] => true
 | .Starred .. :: _ => false
 | _ :: r => noStar r
theorem noStar_head {e : Expr} {es : List Expr} (h : noStar (e :: es) = true) : starEach (e :: es) env = (false, eval e env) :: starEach es env ∧ noStar es = true := by
 cases e <;> first | exact ⟨rfl, h⟩ | cases h
theorem noStar_any {pos : Pos} : ∀ {es : List Expr}, noStar es = true → (backTo pos (starEach es env)).any (·.1) = false
 | [], _ => rfl
 | e :: es, h => by
  obtain ⟨a, b⟩ := noStar_head (env := env) h
  rw [a]
  show (false || (backTo pos (starEach es env)).any (·.1)) = false
  rw [noStar_any b]; rfl
theorem noStar_all {pos : Pos} : ∀ {es : List Expr}, noStar es = true → (backTo pos (starEach es env)).all (fun x => !x.1) = true
 | [], _ => rfl
 | e :: es, h => by
  obtain ⟨a, b⟩ := noStar_head (env := env) h
  rw [a]
  show (true && (backTo pos (starEach es env)).all (fun x => !x.1)) = true
  rw [noStar_all b]; rfl
theorem evalArgs_es {M : Model} {E : Value → Shared → Prop} {s : Shared} {f : Value} {pos : Pos} {es : List Expr} {Q : Args → Shared → Prop} (hn : noStar es = true) (h : wpAny M A (spliced (backTo pos (starEach es env))) (fun vs s' => Q ⟨vs, []⟩ s') E s) :
  wpAny M A (evalArgs f true (backTo pos (starEach es env)) []) Q E s := by
 cases es with
 | nil =>
  unfold evalArgs
  show wpAny M A (spliced [] >>= _) Q E s
  refine wpAny_bind (wpAny_mono h (fun vs s' q => wpAny_bind (wpAny_pure (wpAny_holding ?_))) fun _ _ x => x)
  exact wpAny_bind (wpAny_pure (wpAny_bind (wpAny_pure (wpAny_pure q))))
 | cons e es =>
  obtain ⟨a, b⟩ := noStar_head (env := env) hn
  rw [a] at h ⊢
  exact evalArgs_plain h
noncomputable def CallOk (G : Gd) (f : Value) : Prop := ∀ (M : Model) h, G.K.In h → ∃ k, (k = Keeper.frame ∨ k = Keeper.machine ∨ k = Keeper.boundFrame) ∧ Looks M h (keeperOf f) k
theorem CallOk.builtin (id : String) : CallOk G (.builtin id) := fun M h _ => ⟨.machine, .inr (.inl rfl), .now⟩
theorem CallOk.type (T : String) : CallOk G (.type T) := fun M h _ => ⟨.machine, .inr (.inl rfl), .now⟩
theorem CallOk.keep {f : Value} (hk : keepIn G.K f = true) : CallOk G f := fun M h X => keeps_K hk h X
theorem s_callWith {f : Value} {first : List Value} {es : List Expr} {pos : Pos} {L : (List V → DS → Prop) → DS → Prop} {P : List V → DS → Prop} {Q : Value → PH → List Addr → DS → Prop} (C : CxOk G cx) (hf : CallOk G f) (hn : noStar es = true)
  (h1 : Sl G cx A ex X nc env (spliced (backTo pos (starEach es env))) L) (N : EnvOk G cx ex g ad nc env) (h : L P st)
  (k : ∀ vals vs g' ad' st', Sub g g' → ad <+: ad' → EnvOk G cx ex g' ad' nc env → VRs G g' ad' vs vals → P vs st' → W G cx A ex (call f (first ++ vals)) Q X g' ad' st') :
  W G cx A ex (callWith pos f first (backTo pos (starEach es env)) []) Q X g ad st := fun s Q' E' R hg hq he => by
 refine callWith_of (P := G.K.In) (by rw [noStar_any hn]; rfl) (fun h X => hf (model G.prog G.w) h X) (evalArgs_es hn ?_)
 refine h1 P g ad st N h s _ _ R hg (fun vals g' ad' st' s' S p ⟨vs, rs, q⟩ R' hg' ho => ⟨R'.kin C, ?_⟩) he
 exact k vals vs g' ad' st' S p (N.mono S p) rs q s' Q' E' R' hg' (fun b g₂ ad₂ st₂ s₂ S₂ p₂ q R₂ hg₂ ho₂ => hq b g₂ ad₂ st₂ s₂ (S.trans S₂) (p.trans p₂) q R₂ hg₂ (ho₂.trans ho)) fun c e s' x y hg' ho' => he c e s' x y hg' (ho'.trans ho)
theorem eval_Call_fn {func : Expr} {args : List Expr} {pos : Pos} (h : ∀ o n p, func ≠ .Attribute o n p) : eval (.Call func args [] pos) env = (do callWith pos (← eval func env) [] (backTo pos (starEach args env)) (backToKw pos (keywordEach [] env))) := by
 cases func <;> first | rfl | exact (h _ _ _ rfl).elim
noncomputable def methForm (o : Expr) (apos pos : Pos) (es : List Expr) : Bool := baseOk o && noStar es && apos.endLine == pos.line && decide (es.length < 30)
theorem methForm_star {o : Expr} {apos pos : Pos} {es : List Expr} (h : methForm o apos pos es = true) : noStar es = true :=
 (Bool.and_eq_true_iff.mp (Bool.and_eq_true_iff.mp (Bool.and_eq_true_iff.mp h).1).1).2
theorem eval_meth {o : Expr} {name : Str} {apos pos : Pos} {es : List Expr} (h : methForm o apos pos es = true) :
  ∃ pl : Sem Bool, eval (.Call (.Attribute o name apos) es [] pos) env = (do
   let ov ← eval o env
   PySem.standAt apos.atName
   let (f, first) ← PySem.holding [ov] (getMethod ov name pl)
   callWith pos f first (backTo pos (starEach es env)) []) := by
 unfold methForm at h
 simp only [Bool.and_eq_true, decide_eq_true_eq] at h
 obtain ⟨⟨⟨h1, h2⟩, h3⟩, h4⟩ := h
 refine ⟨(do return (← importBound o env).getD true), ?_⟩
 rw [arm_eval_Call, base_plain h1]
 have hform : methodCallForm (es.length + ([] : List Keyword).length) (backTo pos (starEach es env)) (backToKw pos (keywordEach [] env)) = true := by
  unfold methodCallForm
  rw [noStar_all h2]
  show (true && true && decide (es.length + 0 + 0 < 30)) = true
  simp only [Bool.and_true, Bool.true_and, decide_eq_true_eq]
  omega
 have hpos : methodCallPos true o env apos pos = pure pos := by unfold methodCallPos; simp [h3]
 unfold methodCall
 rw [hform, hpos]
 rfl
end
end
section
set_option genCtorIdx true in
inductive Bi where
 | len | isinstance | ord | chr | max | min | sum | all | range | bytes | list | tuple | set
 deriving DecidableEq
noncomputable def Bi.val : Bi → Value
 | .len => .builtin "len"
 | .isinstance => .builtin "isinstance"
 | .ord => .builtin "ord"
 | .chr => .builtin "chr"
 | .max => .builtin "max"
 | .min => .builtin "min"
 | .sum => .builtin "sum"
 | .all => .builtin "all"
 | .range => .type "range"
 | .bytes => .type "bytes"
 | .list => .type "list"
 | .tuple => .type "tuple"
 | .set => .type "set"
noncomputable def biTab : List (Str × Bi) := [("len", .len), ("isinstance", .isinstance), ("ord", .ord), ("chr", .chr), ("max", .max), ("min", .min), ("sum", .sum), ("all", .all), ("range", .range), ("bytes", .bytes), ("list", .list), ("tuple", .tuple), ("set", .set)]
noncomputable def biOf (x : Str) : Option Bi := biTab.lookup x
noncomputable def tyTab : List (Str × String) := [("tuple", "tuple"), ("int", "int"), ("bool", "bool"), ("list", "list")]
noncomputable def tyOf (x : Str) : Option String := tyTab.lookup x
theorem lookup_all {α β : Type} [BEq α] [LawfulBEq α] {Pr : α → β → Prop} {l : List (α × β)} {x : α} {y : β} (h : ∀ p ∈ l, Pr p.1 p.2) (e : l.lookup x = some y) : Pr x y := by
 induction l with
 | nil => cases e
 | cons p l ih =>
  rw [lookup_cons] at e
  cases q : x == p.1 with
  | true => rw [q] at e; cases e; rw [eq_of_beq q]; exact h _ (.head _)
  | false => rw [q] at e; exact ih (fun p hp => h p (.tail _ hp)) e
noncomputable def nmOk (x : Str) (v : Value) : Bool := bootBuiltins x == some v && (x != "__name__" && !(x == ("__debug__" : Str)))
theorem nmOk_i {x : Str} {v : Value} (h : nmOk x v = true) : bootBuiltins x = some v ∧ x ≠ "__name__" ∧ (x == ("__debug__" : Str)) = false := by
 have h1 := Bool.and_eq_true_iff.mp h
 have h2 := Bool.and_eq_true_iff.mp h1.2
 exact ⟨eq_of_beq h1.1, bne_iff_ne.mp h2.1, (Bool.not_eq_true' _).mp h2.2⟩
theorem biOf_boot {x : Str} {b : Bi} (h : biOf x = some b) : bootBuiltins x = some b.val ∧ x ≠ "__name__" ∧ (x == ("__debug__" : Str)) = false :=
 nmOk_i (lookup_all (Pr := fun x (b : Bi) => nmOk x b.val = true) (all_eq_true.mp (show biTab.all (fun p => nmOk p.1 p.2.val) = true by decide +kernel)) h)
theorem tyOf_boot {x : Str} {T : String} (h : tyOf x = some T) : bootBuiltins x = some (.type T) ∧ x ≠ "__name__" ∧ (x == ("__debug__" : Str)) = false :=
 nmOk_i (lookup_all (Pr := fun x T => nmOk x (.type T) = true) (all_eq_true.mp (show tyTab.all (fun p => nmOk p.1 (.type p.2)) = true by decide +kernel)) h)
theorem Bi.callOk (G : Gd) (b : Bi) : CallOk G b.val := by cases b <;> first | exact .builtin _ | exact .type _
noncomputable def lenV (v : V) (mu : List M) : Option Nat := match v with
 | .tup l => some l.length
 | .bytes b => some b.size
 | .str x => some x.length
 | .set n => some n
 | v => (asLst mu v).map (·.length)
noncomputable def isiTup (v : V) : Option Bool := match v with | .tup _ => some true | .lst _ | .int _ | .bool _ | .str _ | .none => some false | _ => none
noncomputable def isiLst (v : V) : Option Bool := match v with | .lst _ => some true | .tup _ | .int _ | .bool _ | .str _ | .none => some false | _ => none
noncomputable def isiInt (v : V) : Option Bool := match v with | .int _ | .bool _ => some true | .tup _ | .lst _ | .str _ | .none => some false | _ => none
noncomputable def isiBool (v : V) : Option Bool := match v with | .bool _ => some true | .tup _ | .lst _ | .int _ | .str _ | .none => some false | _ => none
noncomputable def isiV (v : V) (T : String) : Option Bool := if T == "tuple" then isiTup v else if T == "list" then isiLst v else if T == "int" then isiInt v else if T == "bool" then isiBool v else none
section
variable {α β γ : Type}
variable {F F₁ F₂ F₃ : (V → DS → Prop) → DS → Prop} {B₁ B₂ B₃ : (Bool → DS → Prop) → DS → Prop}
theorem Rel.lt (R : Rel G cx ex g ad st h) : cx.L < h.objs.size := by
 obtain ⟨oL, cs, fp, I, _, _⟩ := R
 exact I.lvlt (p := (cx.L, oL)) (.head _)
theorem Rel.kept0 (C : CxOk G cx) (R : Rel G cx ex g ad st h) (hk : ∀ b o, h.get? b = some o → h'.get? b = some o) : cx.hin.objs.size ≤ h'.objs.size := by
 obtain ⟨oL, cs, fp, I, _, _⟩ := R
 exact Nat.le_trans C.above (Nat.le_of_lt (Heap.lt_size (hk _ _ (I.cur (cx.L, oL) (.head _)))))
theorem Inv.kept {lv : List (Addr × Obj)} (I : Inv cx g lv h) (hs : cx.hin.objs.size ≤ h'.objs.size) (hk : ∀ b o, h.get? b = some o → h'.get? b = some o) : Inv cx g lv h' where
 size := hs
 keep := fun b o e nd => let ⟨k1, sl, k2⟩ := I.keep b o e nd; ⟨fun nf => hk _ _ (k1 nf), sl, hk _ _ k2⟩
 old := fun a o e => hk _ _ (I.old a o e)
 sub := I.sub
 fresh := I.fresh
 cur := fun p hp => hk _ _ (I.cur p hp)
 own := I.own
 nd := I.nd
theorem Rel.kept (C : CxOk G cx) (R : Rel G cx ex g ad st h) (hk : ∀ b o, h.get? b = some o → h'.get? b = some o) : Rel G cx ex g ad st h' :=
 R.step (Sub.refl g) fun lv I => I.kept (R.kept0 C hk) hk
theorem Rel.keptNew (C : CxOk G cx) (R : Rel G cx ex g ad st h) (hk : ∀ b o, h.get? b = some o → h'.get? b = some o) {a : Addr} {o : Obj} (ha : h.objs.size ≤ a) (e : h'.get? a = some o) : Sub g (upd g a o) ∧ Rel G cx ex (upd g a o) ad st h' := by
 obtain ⟨oL, cs, fp, I, L, M⟩ := R
 have S : Sub g (upd g a o) := Sub.upd (I.gnone ha)
 exact ⟨S, oL, cs, fp, (I.kept (Rel.kept0 C ⟨oL, cs, fp, I, L, M⟩ hk) hk).add e (I.gnone ha) (I.hnone ha) (fun p hp => Nat.ne_of_lt (Nat.lt_of_lt_of_le (I.lvlt hp) ha)), L.mono S (prefix_refl _), M.mono S⟩
theorem WV.kept {t : Sem Value} {Q : V → DS → Prop} (C : CxOk G cx) (v : V)
  (h : ∀ (s : Shared) (Q' : Value → Shared → Prop) (E' : Value → Shared → Prop), Rel G cx ex g ad st s.heap → (∀ a h' tk, (∀ b o, s.heap.get? b = some o → h'.get? b = some o) → VR G g ad v a → Q' a { s with heap := h', toks := tk }) → wpAny (model G.prog G.w) A t Q' E' s)
  (hq : Q v st) : WV G cx A ex t Q X g ad st := fun s Q' E' R hg k _ =>
 h s Q' E' R fun a h' tk hk ra => k _ g ad st _ (Sub.refl g) (prefix_refl _) ⟨v, ra, hq⟩ (R.kept C hk) hg rfl
theorem WV.keptNew {t : Sem Value} {Q : V → DS → Prop} (C : CxOk G cx) (P : Obj → Prop) (v : V)
  (h : ∀ (s : Shared) (Q' : Value → Shared → Prop) (E' : Value → Shared → Prop), Rel G cx ex g ad st s.heap → (∀ a o h' tk, (∀ b o, s.heap.get? b = some o → h'.get? b = some o) → s.heap.objs.size ≤ a → h'.get? a = some o → P o → Q' (.ref a) { s with heap := h', toks := tk }) → wpAny (model G.prog G.w) A t Q' E' s)
  (hv : ∀ a o g', P o → Sub g g' → g' a = some o → VR G g' ad v (.ref a)) (hq : Q v st) : WV G cx A ex t Q X g ad st := fun s Q' E' R hg k _ =>
 h s Q' E' R fun a o h' tk hk ha e p => let ⟨S, R'⟩ := R.keptNew C hk ha e; k _ _ ad st _ S (prefix_refl _) ⟨v, hv _ _ _ p S (upd_self _ _ _), hq⟩ R' hg rfl
theorem lst_len {v : V} {a : Value} {xs : List V} {Q' E' : Value → Shared → Prop} {s : Shared} (R : Rel G cx ex g ad st s.heap) (r : VR G g ad v a) (e : asLst st.mu v = some xs) (hz : xs.length ≤ lstLine)
  (h : Q' (.int xs.length (s.toks + 1)) { s with toks := s.toks + 1 + 1 }) : wpAny (model G.prog G.w) A (call (.builtin "len") [a]) Q' E' s := by
 refine R.list_e r e fun l vs hl rs => ?_
 have z : (vs.toArray.size : Int) = xs.length := by rw [size_toArray, rs.len]
 refine PyProof.Rows.len_list hl ?_ (by rw [z]; exact h)
 rw [z]; exact Int.lt_of_le_of_lt (Int.ofNat_le.mpr hz) (by decide)
theorem len_fit {n : Nat} (h : n ≤ lstLine) : (n : Int) < 2 ^ 63 := Int.lt_of_le_of_lt (Int.ofNat_le.mpr h) (by decide)
theorem s_len {v : V} {a : Value} {n : Nat} {Q : V → DS → Prop} (C : CxOk G cx) (ra : VR G g ad v a) (h : lenV v st.mu = some n) (hz : n ≤ lstLine) (hq : Q (.int n) st) : WV G cx A ex (call (.builtin "len") [a]) Q X g ad st := by
 refine WV.ro (.int n) (fun s Q' E' R k => ?_) hq
 have lst : (asLst st.mu v).map (·.length) = some n → wpAny (model G.prog G.w) A (call (.builtin "len") [a]) Q' E' s := fun h => by
  obtain ⟨xs, e, e'⟩ := Option.map_eq_some_iff.mp h
  subst e'
  exact lst_len R ra e hz (k _ _ (.int _ _))
 cases v with
 | tup l =>
  cases h
  exact R.tup_e ra fun t vs ht rs => by
   have z : vs.toArray.size = l.length := size_toArray.trans rs.len.symm
   refine PyProof.Rows.len_tuple ht (by rw [z]; exact len_fit hz) ?_
   rw [z]; exact k _ _ (.int _ _)
 | bytes b => cases h; exact ra.bytes_e fun t => PySem.W.len_bytes (Nat.le_trans hz (by decide)) (k _ _ (.int _ _))
 | str x => cases h; exact ra.str_e fun t => PySem.P.len_str (Int.not_le_of_gt (len_fit hz)) (k _ _ (.int _ _))
 | set m =>
  cases h
  obtain ⟨a, o, S, e, q, hs, f⟩ := ra.inv
  subst e
  obtain ⟨hex, es, ep, tb, hd, _, _, hn, hf⟩ := hs
  subst hn
  exact call_len_set (R.old q) hex hd hf f (k _ _ (.int _ _))
 | _ => exact lst h
section
variable {v : V} {a : Value} {b : Bool} {Q' E' : Value → Shared → Prop}
theorem tup_obj (R : Rel G cx ex g ad st h) {l : List V} {P : Value → Prop} (ra : VR G g ad (.tup l) a) (k : ∀ r o, h.get? r = some o → o.cls = .type "tuple" → P (.ref r)) : P a := ra.tup_e fun r vs q _ => Exists.elim q fun n q => k r _ (R.old q) rfl
theorem lst_obj (R : Rel G cx ex g ad st h) {l : List V} {P : Value → Prop} (ra : VR G g ad (.lst l) a) (k : ∀ r o, h.get? r = some o → o.cls = .type "list" → o.dict = none → P (.ref r)) : P a := ra.lst_e fun r vs q _ => Exists.elim q fun n q => k r _ (R.old q) rfl rfl
theorem isi_tup (R : Rel G cx ex g ad st s.heap) (ra : VR G g ad v a) (h : isiTup v = some b) (kk : ∀ tk, Q' (.bool b) { s with toks := tk }) : wpAny (model G.prog G.w) A (call (.builtin "isinstance") [a, .type "tuple"]) Q' E' s := by
 cases v with
 | tup l => cases h; exact tup_obj (P := fun a => wpAny _ _ (call (.builtin "isinstance") [a, .type "tuple"]) _ _ _) R ra fun r o q e => IsiPair.tuple_tuple q e (kk s.toks)
 | lst l => cases h; exact lst_obj (P := fun a => wpAny _ _ (call (.builtin "isinstance") [a, .type "tuple"]) _ _ _) R ra fun r o q e _ => IsiPair.list_tuple q e (kk _)
 | int i => cases h; exact ra.int_e fun t => IsiPair.int_tuple (kk _)
 | bool c => cases h; exact ra.bool_e (IsiPair.bool_tuple (kk _))
 | str x => cases h; exact ra.str_e fun t => IsiPair.str_tuple (kk _)
 | none => cases h; exact ra.none_e (IsiPair.NoneType_tuple (kk _))
 | _ => exact none_some h
theorem isi_lst (R : Rel G cx ex g ad st s.heap) (ra : VR G g ad v a) (h : isiLst v = some b) (kk : ∀ tk, Q' (.bool b) { s with toks := tk }) : wpAny (model G.prog G.w) A (call (.builtin "isinstance") [a, .type "list"]) Q' E' s := by
 cases v with
 | tup l => cases h; exact tup_obj (P := fun a => wpAny _ _ (call (.builtin "isinstance") [a, .type "list"]) _ _ _) R ra fun r o q e => IsiPair.tuple_list q e (kk _)
 | lst l => cases h; exact lst_obj (P := fun a => wpAny _ _ (call (.builtin "isinstance") [a, .type "list"]) _ _ _) R ra fun r o q e _ => IsiPair.list_list q e (kk s.toks)
 | int i => cases h; exact ra.int_e fun t => IsiPair.int_list (kk _)
 | bool c => cases h; exact ra.bool_e (IsiPair.bool_list (kk _))
 | str x => cases h; exact ra.str_e fun t => IsiPair.str_list (kk _)
 | none => cases h; exact ra.none_e (IsiPair.NoneType_list (kk _))
 | _ => exact none_some h
theorem isi_int (R : Rel G cx ex g ad st s.heap) (ra : VR G g ad v a) (h : isiInt v = some b) (kk : ∀ tk, Q' (.bool b) { s with toks := tk }) : wpAny (model G.prog G.w) A (call (.builtin "isinstance") [a, .type "int"]) Q' E' s := by
 cases v with
 | tup l => cases h; exact tup_obj (P := fun a => wpAny _ _ (call (.builtin "isinstance") [a, .type "int"]) _ _ _) R ra fun r o q e => IsiPair.tuple_int q e (kk _)
 | lst l => cases h; exact lst_obj (P := fun a => wpAny _ _ (call (.builtin "isinstance") [a, .type "int"]) _ _ _) R ra fun r o q e _ => IsiPair.list_int q e (kk _)
 | int i => cases h; exact ra.int_e fun t => IsiPair.int_int (kk s.toks)
 | bool c => cases h; exact ra.bool_e (IsiPair.bool_int (kk s.toks))
 | str x => cases h; exact ra.str_e fun t => IsiPair.str_int (kk _)
 | none => cases h; exact ra.none_e (IsiPair.NoneType_int (kk _))
 | _ => exact none_some h
theorem isi_bool (R : Rel G cx ex g ad st s.heap) (ra : VR G g ad v a) (h : isiBool v = some b) (kk : ∀ tk, Q' (.bool b) { s with toks := tk }) : wpAny (model G.prog G.w) A (call (.builtin "isinstance") [a, .type "bool"]) Q' E' s := by
 cases v with
 | tup l => cases h; exact tup_obj (P := fun a => wpAny _ _ (call (.builtin "isinstance") [a, .type "bool"]) _ _ _) R ra fun r o q e => IsiPair.tuple_bool q e (kk _)
 | lst l => cases h; exact lst_obj (P := fun a => wpAny _ _ (call (.builtin "isinstance") [a, .type "bool"]) _ _ _) R ra fun r o q e _ => IsiPair.list_bool q e (kk _)
 | int i => cases h; exact ra.int_e fun t => IsiPair.int_bool (kk _)
 | bool c => cases h; exact ra.bool_e (IsiPair.bool_bool (kk s.toks))
 | str x => cases h; exact ra.str_e fun t => IsiPair.str_bool (kk _)
 | none => cases h; exact ra.none_e (IsiPair.NoneType_bool (kk _))
 | _ => exact none_some h
end
theorem ite_of {α : Type} {c : Bool} {x y : Option α} {b : α} {P : Prop} (h : (if c then x else y) = some b) (k1 : c = true → x = some b → P) (k2 : y = some b → P) : P := by
 cases c with
 | true => exact k1 rfl h
 | false => exact k2 h
theorem s_isi {v : V} {a : Value} {T : String} {b : Bool} {Q : V → DS → Prop} (ra : VR G g ad v a) (h : isiV v T = some b) (hq : Q (.bool b) st) : WV G cx A ex (call (.builtin "isinstance") [a, .type T]) Q X g ad st :=
 WV.ro (.bool b) (fun s Q' E' R k => ite_of h (fun e h => eq_of_beq e ▸ isi_tup R ra h fun tk => k _ tk (.bool b)) fun h => ite_of h (fun e h => eq_of_beq e ▸ isi_lst R ra h fun tk => k _ tk (.bool b)) fun h =>
  ite_of h (fun e h => eq_of_beq e ▸ isi_int R ra h fun tk => k _ tk (.bool b)) fun h => ite_of h (fun e h => eq_of_beq e ▸ isi_bool R ra h fun tk => k _ tk (.bool b)) fun h => none_some h) hq
theorem s_sum {v : V} {a : Value} {xs : List V} {ns : List Int} {Q : V → DS → Prop} (C : CxOk G cx) (O : AOk cx A r) (ra : VR G g ad v a) (h : asLst st.mu v = some xs) (hi : intsOf xs = some ns) (hq : Q (.int ns.sum) st) : WV G cx A ex (call (.builtin "sum") [a]) Q X g ad st :=
 WV.roFN C (.int ns.sum) (fun s Q' E' h₀ m news R F N K k => by
  refine R.list_e ra h fun l vs hl rs => ?_
  exact LSm.sum_ints F N O.handled hl (intsOf_are rs hi) fun h' tk t' F' N' => k _ _ _ F' N' (.int _ _)) hq
theorem s_all {v : V} {a : Value} {xs : List V} {bs : List Bool} {Q : V → DS → Prop} (C : CxOk G cx) (O : AOk cx A r) (ra : VR G g ad v a) (h : asLst st.mu v = some xs) (hi : boolsOf xs = some bs) (hq : Q (.bool (bs.all id)) st) : WV G cx A ex (call (.builtin "all") [a]) Q X g ad st :=
 WV.roFN C (.bool (bs.all id)) (fun s Q' E' h₀ m news R F N K k => by
  refine R.list_e ra h fun l vs hl rs => ?_
  exact LSm.all_bools F N O.handled hl (boolsOf_are rs hi) fun h' tk F' N' => k _ _ _ F' N' (.bool _)) hq
theorem s_max {a b : Int} {x y : Value} {Q : V → DS → Prop} (C : CxOk G cx) (O : AOk cx A r) (ra : VR G g ad (.int a) x) (rb : VR G g ad (.int b) y) (hq : Q (.int (if b > a then b else a)) st) : WV G cx A ex (call (.builtin "max") [x, y]) Q X g ad st :=
 WV.kept C (.int (if b > a then b else a)) (fun s Q' E' R k => ra.int_e fun t => rb.int_e fun u => max_two_ints O.handled fun h' tk hk => k _ _ _ hk (by split <;> exact .int _ _)) hq
theorem s_min {a b : Int} {x y : Value} {Q : V → DS → Prop} (C : CxOk G cx) (O : AOk cx A r) (ra : VR G g ad (.int a) x) (rb : VR G g ad (.int b) y) (hq : Q (.int (if b < a then b else a)) st) : WV G cx A ex (call (.builtin "min") [x, y]) Q X g ad st :=
 WV.kept C (.int (if b < a then b else a)) (fun s Q' E' R k => ra.int_e fun t => rb.int_e fun u => min_two_ints O.handled fun h' tk hk => k _ _ _ hk (by split <;> exact .int _ _)) hq
theorem s_ord {x : Str} {a : Value} {Q : V → DS → Prop} (ra : VR G g ad (.str x) a) (h1 : x.length = 1) (hq : Q (.int (x.cps.getD 0 0 : Nat)) st) : WV G cx A ex (call (.builtin "ord") [a]) Q X g ad st :=
 WV.ro (.int (x.cps.getD 0 0 : Nat)) (fun s Q' E' R k => ra.str_e fun t => ord_of_one h1 (k _ _ (.int _ _))) hq
theorem s_chr {i : Int} {a : Value} {Q : V → DS → Prop} (ra : VR G g ad (.int i) a) (h0 : 0 ≤ i) (h1 : i ≤ 1114111) (hq : Q (.str ⟨#[i.toNat]⟩) st) : WV G cx A ex (call (.builtin "chr") [a]) Q X g ad st :=
 WV.ro (.str ⟨#[i.toNat]⟩) (fun s Q' E' R k => ra.int_e fun t => chr_of_range h0 h1 (k _ _ (.str _ _))) hq
theorem s_range1 {n : Int} {a : Value} {Q : V → DS → Prop} (ra : VR G g ad (.int n) a) (hq : Q (.rng 0 n) st) : WV G cx A ex (call (.type "range") [a]) Q X g ad st := fun s Q' E' R hg k _ => ra.int_e fun t => by
 refine call_range_1 ?_
 obtain ⟨S, R'⟩ := R.frozen (o := { cls := .type "range", data := .fields #[.int 0 s.toks, .int n _, .int 1 (s.toks + 1)] }) rfl
 exact k _ _ ad st _ S (prefix_refl _) ⟨_, .rng (upd_self _ _ _), hq⟩ R' hg rfl
theorem s_range2 {n m : Int} {a b : Value} {Q : V → DS → Prop} (ra : VR G g ad (.int n) a) (rb : VR G g ad (.int m) b) (hq : Q (.rng n m) st) : WV G cx A ex (call (.type "range") [a, b]) Q X g ad st := fun s Q' E' R hg k _ => ra.int_e fun t => rb.int_e fun u => by
 refine call_range_2 ?_
 obtain ⟨S, R'⟩ := R.frozen (o := { cls := .type "range", data := .fields #[.int n _, .int m _, .int 1 s.toks] }) rfl
 exact k _ _ ad st _ S (prefix_refl _) ⟨_, .rng (upd_self _ _ _), hq⟩ R' hg rfl
theorem s_bytes {v : V} {a : Value} {xs : List V} {ns : List Int} {Q : V → DS → Prop} (C : CxOk G cx) (O : AOk cx A r) (ra : VR G g ad v a) (h : asLst st.mu v = some xs) (hi : intsOf xs = some ns) (hr : ∀ n ∈ ns, 0 ≤ n ∧ n < 256) (hz : xs.length ≤ lstLine) (hq : Q (.bytes (byteArr ns)) st) : WV G cx A ex (call (.type "bytes") [a]) Q X g ad st :=
 WV.kept C (.bytes (byteArr ns)) (fun s Q' E' R k => by
  refine R.list_e ra h fun l vs hl rs => ?_
  exact call_bytes_ints hl (intsOf_are rs hi) hr (by rw [← rs.len]; exact Nat.le_trans hz (by decide)) O.handled fun h' t tk hk => k _ _ _ hk (.bytes _ _)) hq
theorem s_list {v : V} {a : Value} {xs : List V} {Q : V → DS → Prop} (C : CxOk G cx) (ra : VR G g ad v a) (h : asLst st.mu v = some xs ∨ v = .tup xs) (hz : xs.length ≤ lstLine) (hq : Q (.lst xs) st) : WV G cx A ex (call (.type "list") [a]) Q X g ad st := fun s Q' E' R hg k _ => by
 have go : ∀ (it : Addr) (T : String) (o : Obj) (vs : List Value) (n : Nat), (T = "list" ∨ T = "tuple") → s.heap.get? it = some o → o.cls = .type T → o.data = .seq vs.toArray n → VRs G g [] xs vs → wpAny (model G.prog G.w) A (call (.type "list") [.ref it]) Q' E' s := by
  intro it T o vs n hT ho hc hd rs
  refine call_list_seq (hsz := by rw [size_toArray, ← rs.len]; exact Nat.le_trans hz (by decide)) it hT ho hc hd fun h' c' hk e => ?_
  obtain ⟨S, R'⟩ := R.keptNew C hk (Nat.le_refl _) e
  exact k _ _ ad st _ S (prefix_refl _) ⟨.lst xs, .lst ⟨_, upd_self _ _ _⟩ (rs.mono S (prefix_refl _)), hq⟩ R' hg rfl
 rcases h with h | h
 ·obtain ⟨l, vs, rfl, ⟨o, ho, hc, n, hd⟩, rs⟩ := R.isList ra h
  exact go l "list" o vs n (.inl rfl) ho hc hd rs
 ·subst h
  obtain ⟨l, vs, rfl, ⟨o, ho, hc, n, hd⟩, rs⟩ := R.isTup ra
  exact go l "tuple" o vs n (.inr rfl) ho hc hd rs
theorem s_tuple {v : V} {a : Value} {xs : List V} {Q : V → DS → Prop} (C : CxOk G cx) (ra : VR G g ad v a) (h : asLst st.mu v = some xs) (hz : xs.length ≤ lstLine) (hq : Q (.tup xs) st) : WV G cx A ex (call (.type "tuple") [a]) Q X g ad st := fun s Q' E' R hg k _ => by
 refine R.list_e ra h fun l vs hl rs => ?_
 refine call_tuple_list hl (fun h' hk => ?_) (by rw [size_toArray, ← rs.len]; exact Nat.le_trans hz (by decide))
 obtain ⟨S, R'⟩ := (R.kept C hk).frozen (o := { cls := .type "tuple", data := .seq vs.toArray }) rfl
 exact k _ _ ad st _ S (prefix_refl _) ⟨.tup xs, .tup ⟨_, upd_self _ _ _⟩ (rs.mono S (prefix_refl _)), hq⟩ R' hg rfl
noncomputable def metOf (ns : List Int) : List Int := firstMet (fun i => ns.getD i 0) ns.length
theorem s_set {v : V} {a : Value} {xs : List V} {ns : List Int} {Q : V → DS → Prop} (C : CxOk G cx) (O : AOk cx A r) (ra : VR G g ad v a) (h : asLst st.mu v = some xs) (hi : intsOf xs = some ns) (hz : ns.length ≤ 4000) (hq : Q (.set (metOf ns).length) st) : WV G cx A ex (call (.type "set") [a]) Q X g ad st := fun s Q' E' R hg k _ => by
 refine R.list_e ra h fun l vs hl rs => ?_
 have hn : IntsAre vs ns := intsOf_are rs hi
 have e : vs.toArray.size = ns.length := by rw [size_toArray, hn.length]
 refine PySem.call_set_list O.handled hl (by simpa using hn) (by rw [e]; unfold scanBound; omega) fun h' tk hS hk => ?_
 rw [e] at hS
 obtain ⟨o, ho, hso⟩ := hS.objOf
 have hle : (metOf ns).length ≤ ns.length := firstMet_length_le _ _
 obtain ⟨S, R'⟩ := R.keptNew C (fun b o e => hk b o (Heap.lt_size e) e) (Nat.le_refl _) ho
 exact k _ _ ad st _ S (prefix_refl _) ⟨_, .set (upd_self _ _ _) hso (by have : (firstMet (fun i => ns.getD i 0) ns.length).length ≤ ns.length := hle; omega), hq⟩ R' hg rfl
noncomputable def oneP (vs : List V) (Q : V → Prop) : Prop := match vs with
 | [v] => Q v
 | _ => False
noncomputable def twoP (vs : List V) (Q : V → V → Prop) : Prop := match vs with
 | [v, w] => Q v w
 | _ => False
noncomputable def strP (v : V) (Q : Str → Prop) : Prop := match v with
 | .str x => Q x
 | _ => False
noncomputable def tyP (v : V) (Q : String → Prop) : Prop := match v with
 | .ty T => Q T
 | _ => False
theorem strP_i {a : V} {Q : Str → Prop} (h : strP a Q) : ∃ x, a = .str x ∧ Q x := by cases a <;> first | exact ⟨_, rfl, h⟩ | exact False.elim h
theorem tyP_i {a : V} {Q : String → Prop} (h : tyP a Q) : ∃ x, a = .ty x ∧ Q x := by cases a <;> first | exact ⟨_, rfl, h⟩ | exact False.elim h
@[elab_as_elim] theorem one_e {vals : List Value} {Q : V → Prop} {P : List Value → Prop} (rs : VRs G g ad vs vals) (h : oneP vs Q) (k : ∀ v a, VR G g ad v a → Q v → P [a]) : P vals := by
 cases vs with
 | nil => exact False.elim h
 | cons v vs => cases vs with
  | nil => exact rs.one_e fun a r => k v a r h
  | cons _ _ => exact False.elim h
@[elab_as_elim] theorem two_e {vals : List Value} {Q : V → V → Prop} {P : List Value → Prop} (rs : VRs G g ad vs vals) (h : twoP vs Q) (k : ∀ v w a b, VR G g ad v a → VR G g ad w b → Q v w → P [a, b]) : P vals := by
 cases vs with
 | nil => exact False.elim h
 | cons v vs => cases vs with
  | nil => exact False.elim h
  | cons w vs => cases vs with
   | nil => exact rs.two_e fun a b r q => k v w a b r q h
   | cons _ _ => exact False.elim h
noncomputable def rngT (vs : List V) (Q : V → Prop) : Prop := match vs with
 | [v] => intP v fun n => Q (.rng 0 n)
 | [v, w] => intV v w fun a b => Q (.rng a b)
 | _ => False
noncomputable def bytT (v : V) (Q : V → Prop) : Prop := match v with
 | .bytes b => Q (.bytes b)
 | .lst xs => oElim (intsOf xs) fun ns => (∀ n ∈ ns, 0 ≤ n ∧ n < 256) ∧ chk (Nat.ble xs.length lstLine) (Q (.bytes (byteArr ns)))
 | _ => False
noncomputable def lisT (v : V) (mu : List M) (Q : V → Prop) : Prop := match v with
 | .tup l => chk (Nat.ble l.length lstLine) (Q (.lst l))
 | v => oElim (asLst mu v) fun xs => chk (Nat.ble xs.length lstLine) (Q (.lst xs))
noncomputable def biT (b : Bi) (vs : List V) (mu : List M) (Q : V → Prop) : Prop := match b with
 | .len => oneP vs fun v => oElim (lenV v mu) fun n => chk (Nat.ble n lstLine) (Q (.int n))
 | .isinstance => twoP vs fun v t => tyP t fun T => oElim (isiV v T) fun c => Q (.bool c)
 | .ord => oneP vs fun v => strP v fun x => chk (Nat.beq x.length 1) (Q (.int (x.cps.getD 0 0 : Nat)))
 | .chr => oneP vs fun v => intP v fun i => chk (natLt i 1114112) (Q (.str ⟨#[i.toNat]⟩))
 | .max => twoP vs fun v w => intV v w fun a b => Q (.int (if b > a then b else a))
 | .min => twoP vs fun v w => intV v w fun a b => Q (.int (if b < a then b else a))
 | .sum => oneP vs fun v => oElim (asLst mu v) fun xs => oElim (intsOf xs) fun ns => Q (.int ns.sum)
 | .all => oneP vs fun v => oElim (asLst mu v) fun xs => oElim (boolsOf xs) fun bs => Q (.bool (bs.all id))
 | .range => rngT vs Q
 | .bytes => oneP vs fun v => bytT v Q
 | .list => oneP vs fun v => lisT v mu Q
 | .tuple => oneP vs fun v => oElim (asLst mu v) fun xs => chk (Nat.ble xs.length lstLine) (Q (.tup xs))
 | .set => oneP vs fun v => oElim (asLst mu v) fun xs => oElim (intsOf xs) fun ns => chk (Nat.ble ns.length 4000) (Q (.set (metOf ns).length))
end
end
section
theorem noteFrame_same {e₁ e₂ : Env} (h : e₁.frame = e₂.frame) (x : Value) : noteFrame x e₁ = noteFrame x e₂ := by
 unfold noteFrame PySem.frameOf; rw [h]
noncomputable def NoteTo (h h' : Heap) : Prop := ∀ b o, h.get? b = some o → (∀ vs, o.data ≠ .fields vs) → ∃ sl, h'.get? b = some { o with slots := sl }
theorem NoteTo.ns {h h' : Heap} (x : NoteTo h h') {a : Addr} {m : Str → Option Value} (n : h.Ns a m) : h'.Ns a m := Heap.UpToSlots.ns x n
section
variable {α β γ : Type} {c : Str} {e : Addr} {M : Model}
theorem ExcIn.moves (x : ExcIn G cx ex c e h) (k1 : cx.base.StaysIn h') (k2 : h'.FunFrames cx.base (cx.envF :: cx.outer)) (u : NoteTo h h') {C : Addr} (hc : nsIn G.K mainGlobals c = some (some (.ref C))) (k3 : FreshExc h' e C ∨ ∃ fl, TracedFl h' cx.base e C fl) : ExcIn G cx ex c e h' := by
 refine ⟨k1, x.new, k2, fun b o hb e' => ?_, fun p hp q => ?_, C, hc, k3⟩
 ·obtain ⟨sl, es⟩ := x.up b o hb e'
  obtain ⟨_, o', ho', hn⟩ := Heap.FunFrames.mem x.frames (b := b) (by
   rw [filterMap_cons]; split
   ·exact hb
   ·exact .tail _ hb)
  rw [es] at ho'; cases ho'
  obtain ⟨sl', es'⟩ := u b _ es hn
  exact ⟨sl', es'⟩
 ·obtain ⟨m, hm⟩ := x.exs p hp q
  exact ⟨m, u.ns hm⟩
theorem traced_of {h base : Heap} {e : Addr} {C : Addr} {a0 fl : Value} (x : h.TracedAtW base e (.ref C) a0 fl) : TracedFl h base e C fl := by
 obtain ⟨oe, vs, T, oT, ts, he, hc, hd, r⟩ := x
 exact ⟨oe, vs, T, oT, ts, he, hc.1, hd, r⟩
theorem zeroth {vs : Array Value} {x : Value} (h : vs[1]? = some x) : ∃ y, vs[0]? = some y := by
 have := (Array.getElem?_eq_some_iff.mp h).1
 exact ⟨vs[0]'(by omega), Array.getElem?_eq_getElem _⟩
theorem exc_note (C : CxOk G cx) (hfr : A.frames = some (cx.envF :: cx.outer)) (hf : env.frame = some cx.L) (x : ExcIn G cx ex c e s.heap) {Q : Unit → Shared → Prop}
  (k : ∀ h', ExcIn G cx ex c e h' → (∃ C, nsIn G.K mainGlobals c = some (some (.ref C)) ∧ TracedFl h' cx.base e C (rawInt cx.L)) → Q () { s with heap := h' }) : wpAny M A (noteFrame (.ref e) env) Q E s := by
 rw [noteFrame_same (hf.trans C.frame.symm)]
 obtain ⟨Cl, hc, hx | ⟨fl, hx⟩⟩ := x.exc
 ·obtain ⟨oe, vs, he, hcl, hd, h1⟩ := hx
  obtain ⟨a0, h0⟩ := zeroth h1
  unfold noteFrame
  simp only [C.frame]
  refine wpAny_bind (wpAny_field he hd h1 ?_)
  rw [if_neg (by decide)]
  refine wpAny_entryW hfr x.frames C.frame he x.stays x.new hd (Array.getElem?_eq_some_iff.mp h1).1 h0 fun h' ⟨k1, k2, k3, k4⟩ => ?_
  rw [hcl] at k3
  have t := traced_of k3
  exact k h' (x.moves k1 k2 k4 hc (.inr ⟨_, t⟩)) ⟨Cl, hc, t⟩
 ·obtain ⟨oe, vs, T, oT, ts, he, hcl, hd, h1, hnT, hTe, hT, hdT, h3⟩ := id hx
  obtain ⟨a0, h0⟩ := zeroth h1
  unfold noteFrame
  simp only [C.frame]
  refine wpAny_bind (wpAny_field he hd h1 ?_)
  rw [if_pos (show (Value.ref T != Value.none) = true from by simp)]
  refine wpAny_bind (wpAny_field hT hdT h3 ?_)
  by_cases q : (fl == rawInt cx.L) = true
  ·rw [if_pos q]
   have q' := eq_of_beq q
   subst q'
   exact wpAny_pure (k _ x ⟨Cl, hc, hx⟩)
  ·rw [if_neg q]
   refine wpAny_bind (wpAny_setField hT hdT (Array.getElem?_eq_some_iff.mp h3).1 ?_)
   have other : ∀ b, b ≠ T → (s.heap.update T (Obj.mapFields (·.setIfInBounds 3 Value.none))).get? b = s.heap.get? b := fun b hb => Heap.get?_update_other _ _ (Ne.symm hb)
   have noRecord : ∀ b o, s.heap.get? b = some o → (∀ vs, o.data ≠ .fields vs) → b ≠ T := fun b o hb hnf q => by
    rw [q, hT] at hb; injection hb with hb; subst hb; exact hnf ts hdT
   refine wpAny_entryW hfr (x.frames.of_keeps fun b o hb hnf => ⟨o, (other b (noRecord b o hb hnf)).trans hb, rfl⟩) C.frame ((other e (Ne.symm hTe)).trans he)
    (fun b o hbo => (other b fun q => by rw [q, hnT] at hbo; cases hbo).trans (x.stays b o hbo)) x.new hd (Array.getElem?_eq_some_iff.mp h1).1 h0 fun h' ⟨k1, k2, k3, k4⟩ => ?_
   rw [hcl] at k3
   have t := traced_of k3
   exact k h' (x.moves k1 k2 (fun b o hb hnf => k4 b o ((other b (noRecord b o hb hnf)).trans hb) hnf) hc (.inr ⟨_, t⟩)) ⟨Cl, hc, t⟩
theorem exc_flight (x : ExcIn G cx ex c e s.heap) {Cl : Addr} {fl : Value} (hc : nsIn G.K mainGlobals c = some (some (.ref Cl))) (hx : TracedFl s.heap cx.base e Cl fl) {fr : Option Addr} {Q : Unit → Shared → Prop}
  (k : ∀ h', ExcIn G cx ex c e h' → TracedFl h' cx.base e Cl (fr.elim .none fun f => rawInt f) → Q () { s with heap := h' }) : wpAny M A (setFlight (.ref e) fr) Q E s := by
 obtain ⟨oe, vs, T, oT, ts, he, hcl, hd, h1, hnT, hTe, hT, hdT, h3⟩ := hx
 have hsz3 : 3 < ts.size := (Array.getElem?_eq_some_iff.mp h3).1
 have other : ∀ b, b ≠ T → (s.heap.update T (Obj.mapFields (·.setIfInBounds 3 (fr.elim Value.none fun f => rawInt f)))).get? b = s.heap.get? b :=
  fun b hb => Heap.get?_update_other _ _ (Ne.symm hb)
 have noRecord : ∀ b o, s.heap.get? b = some o → (∀ vs, o.data ≠ .fields vs) → b ≠ T := fun b o hb hnf q => by
  rw [q, hT] at hb; injection hb with hb; subst hb; exact hnf ts hdT
 have t : TracedFl (s.heap.update T (Obj.mapFields (·.setIfInBounds 3 (fr.elim Value.none fun f => rawInt f)))) cx.base e Cl (fr.elim .none fun f => rawInt f) :=
  ⟨oe, vs, T, _, _, (other e (Ne.symm hTe)).trans he, hcl, hd, h1, hnT, hTe, Heap.get?_update_self _ hT (Obj.isFreed_of_fields (Obj.data_mapFields hdT _)), Obj.data_mapFields hdT _, by simp [hsz3]⟩
 unfold setFlight
 refine wpAny_bind (wpAny_field he hd h1 ?_)
 rw [if_pos (show (Value.ref T != Value.none) = true from by simp)]
 refine wpAny_setField hT hdT hsz3 (k _ (x.moves (fun b o hbo => (other b fun q => by rw [q, hnT] at hbo; cases hbo).trans (x.stays b o hbo))
  (x.frames.of_keeps fun b o hb hnf => ⟨o, (other b (noRecord b o hb hnf)).trans hb, rfl⟩) (fun b o hb hnf => ⟨o.slots, (other b (noRecord b o hb hnf)).trans hb⟩) hc (.inr ⟨_, t⟩)) t)
theorem exc_noted (C : CxOk G cx) (hfr : A.frames = some (cx.envF :: cx.outer)) (hf : env.frame = some cx.L) (x : ExcIn G cx ex c e s.heap)
  (k : ∀ h', ExcIn G cx ex c e h' → (∃ C, nsIn G.K mainGlobals c = some (some (.ref C)) ∧ ∃ fl, TracedFl h' cx.base e C fl) → E (.ref e) { s with heap := h' }) : notedBy M A env E (.ref e) s :=
 exc_note C hfr hf x fun h' x' ⟨Cl, a, b⟩ => k h' x' ⟨Cl, a, _, b⟩
theorem exc_came (x : ExcIn G cx ex c e s.heap) (t : ∃ C, nsIn G.K mainGlobals c = some (some (.ref C)) ∧ ∃ fl, TracedFl s.heap cx.base e C fl)
  (k : ∀ h', ExcIn G cx ex c e h' → E (.ref e) { s with heap := h' }) : cameBackBy M A env E (.ref e) s := by
 obtain ⟨Cl, hc, fl, t⟩ := t
 obtain ⟨oe, vs, T, oT, ts, he, hcl, hd, h1, hnT, hTe, hT, hdT, h3⟩ := id t
 unfold cameBackBy
 refine wpAny_bind (wpAny_field he hd h1 ?_)
 rw [if_neg (show ¬ ((Value.ref T == Value.none) = true) from by simp)]
 exact exc_flight x hc t fun h' x' _ => k h' x'
theorem exc_pass {α : Type} {what : String} {Q : α → Shared → Prop} (x : ExcIn G cx ex c e s.heap) (t : ∃ C, nsIn G.K mainGlobals c = some (some (.ref C)) ∧ ∃ fl, TracedFl s.heap cx.base e C fl)
  (k : ∀ h', ExcIn G cx ex c e h' → E (.ref e) { s with heap := h' }) : wpAny M A (PySem.passOn what (.ref e) env : Sem α) Q E s := by
 obtain ⟨Cl, hc, fl, t⟩ := t
 obtain ⟨oe, vs, T, oT, ts, he, hcl, hd, h1, hnT, hTe, hT, hdT, h3⟩ := id t
 unfold PySem.passOn
 refine wpAny_bind (wpAny_field he hd h1 ?_)
 rw [if_neg (show ¬ ((Value.ref T == Value.none) = true) from by simp)]
 refine wpAny_bind (exc_flight x hc t fun h' x' _ => wpAny_throw (k h' x'))
theorem exc_leave (C : CxOk G cx) (hfr : A.frames = some (cx.envF :: cx.outer)) (x : ExcIn G cx ex c e s.heap) {Q : Unit → Shared → Prop}
  (k : ∀ h' Cl, nsIn G.K mainGlobals c = some (some (.ref Cl)) → Heap.Flying cx.base cx.outer e (.ref Cl) h' → UpF cx h' → cx.hin.objs.size ≤ h'.objs.size → Q () { s with heap := h' }) : wpAny M A (leaving cx.envF (.ref e)) Q E s := by
 unfold leaving
 refine wpAny_bind (exc_note C hfr C.frame x fun h' x' ⟨Cl, hc, t⟩ => ?_)
 refine exc_flight (s := { s with heap := h' }) x' hc t fun h₂ x₂ t₂ => ?_
 obtain ⟨_, ⟨L, o, hL, _, hLo, _⟩, hr⟩ := x₂.frames
 rw [C.frame] at hL
 cases hL
 exact k h₂ Cl hc ⟨x₂.stays, x₂.new, hr, t₂⟩ x₂.up (Nat.le_trans C.above (Nat.le_of_lt (Heap.lt_size hLo)))
end
end
section
abbrev Bor := M × Addr × List (Addr × Obj)
noncomputable def borD : Option Bor → List Addr
 | none => []
 | some (_, _, l) => l.map (·.1)
noncomputable def borA : Option Bor → List Addr
 | none => []
 | some (_, a, _) => [a]
structure CallAt (G : Gd) (fr : List Env) (g : PH) (base h : Heap) (D : List Addr) : Prop where
 b₀ : G.b₀.StaysIn base
 stays : base.StaysIn h
 baseD : ∀ a ∈ D, base.get? a = none
 frames : h.FunFrames base fr
 frD : ∀ a ∈ frs fr, a ∉ D
 hbase : ∀ b o, h.get? b = some o → b ∉ D → b ∉ frs fr → base.get? b = some o
 old : ∀ a o, g a = some o → base.get? a = some o
 gb : ∀ a o, G.b₀.get? a = some o → g a = some o
noncomputable def BorOk (G : Gd) (g : PH) (h : Heap) (b : Option Bor) : Prop := ∀ m a l, b = some (m, a, l) → MR G g [] m a l ∧ (∀ p ∈ l, h.get? p.1 = some p.2) ∧ (l.map (·.1)).Nodup
noncomputable def OutOk (h : Heap) (D : List Addr) (g : PH) (fr : List Env) (g' : PH) (l' : List (Addr × Obj)) (h' : Heap) : Prop :=
 ∃ cx : Cx, cx.hin = h ∧ cx.D = D ∧ cx.g₀ = g ∧ cx.outer = fr ∧ Inv cx g' l' h'
abbrev Ctr := List V → Option M → (V → Option M → Prop) → (Str → Prop) → Prop
noncomputable def SoundF (G : Gd) (r : Nat) (f : Addr) (φ : Ctr) : Prop :=
 ∀ (A : Around) (s : Shared) (fr : List Env) (g : PH) (base : Heap) (b : Option Bor) (vals : List Value) (vs : List V) (Q : V → Option M → Prop) (X : Str → Prop) (Q' E' : Value → Shared → Prop),
  A.frames = some fr → A.handled = none → A.guards = some [] → A.depth + 20 * r ≤ 800 → A.units + 100 * r ≤ 9800 → s.gens = #[] →
  CallAt G fr g base s.heap (borD b) → BorOk G g s.heap b → VRs G g (borA b) vs vals → φ vs (b.map (·.1)) Q X →
  (∀ g' l' v val m' s', Sub g g' → OutOk s.heap (borD b) g fr g' l' s'.heap → VR G g' [] v val → (b = none → m' = none) → (∀ m a l, b = some (m, a, l) → ∃ m₁, m' = some m₁ ∧ MR G g' [] m₁ a l') → Q v m' → s'.gens = #[] → s'.os = s.os → Q' val s') →
  (∀ c e s' C, X c → nsIn G.K mainGlobals c = some (some (.ref C)) → Heap.Flying base fr e (.ref C) s'.heap → (∀ b o, b ∈ frs fr → s.heap.get? b = some o → ∃ sl, s'.heap.get? b = some { o with slots := sl }) → s.heap.objs.size ≤ s'.heap.objs.size → s'.gens = #[] → s'.os = s.os → E' (.ref e) s') →
  codeAny (model G.prog G.w) A (.call (.ref f) ⟨vals, []⟩) (fun r s' => match r with | .ok (.ret v) => Q' v s' | .ok _ => False | .error e => E' e s') s
theorem MR.any {g : PH} {ad ad' : List Addr} {m : M} {a : Addr} {l : List (Addr × Obj)} (x : MR G g ad m a l) : MR G g ad' m a l :=
 MR.casesOn (motive := fun m a l _ => MR G g ad' m a l) x (fun r => .lst r) (fun c e1 e2 e3 n z f f' => .inst c e1 e2 e3 n z f f') (fun c e1 e2 e3 n f1 f2 f3 => .sink c e1 e2 e3 n f1 f2 f3) .barr (fun a b => .exc a b) .dead
theorem frs_cons {e : Env} {l : List Env} {L : Addr} (h : e.frame = some L) : frs (e :: l) = L :: frs l := by unfold frs; rw [filterMap_cons, h]
theorem funFrames_on {h h' base : Heap} {l : List Env} (x : h.FunFrames base l) (k : ∀ b ∈ frs l, ∀ o, h.get? b = some o → ∃ o', h'.get? b = some o' ∧ o'.data = o.data) : h'.FunFrames base l := by
 induction l with
 | nil => trivial
 | cons env rest ih =>
  obtain ⟨hk, ⟨L, o, hf, hn, ho, hd⟩, hr⟩ := x
  rw [frs_cons hf] at k
  obtain ⟨o', ho', hd'⟩ := k L (.head _) o ho
  exact ⟨hk, ⟨L, o', hf, hn, ho', fun vs => hd' ▸ hd vs⟩, ih hr fun b hb => k b (.tail _ hb)⟩
theorem funFrames_base {h base base' : Heap} {l : List Env} (x : h.FunFrames base l) (k : ∀ b ∈ frs l, base'.get? b = none) : h.FunFrames base' l := by
 induction l with
 | nil => trivial
 | cons env rest ih =>
  obtain ⟨hk, ⟨L, o, hf, hn, ho, hd⟩, hr⟩ := x
  rw [frs_cons hf] at k
  exact ⟨hk, ⟨L, o, hf, k L (.head _), ho, hd⟩, ih hr fun b hb => k b (.tail _ hb)⟩
theorem frs_mem {h base : Heap} {l : List Env} (x : h.FunFrames base l) {b : Addr} (hb : b ∈ frs l) : base.get? b = none ∧ ∃ o, h.get? b = some o ∧ ∀ vs, o.data ≠ .fields vs := Heap.FunFrames.mem x hb
section
variable {α β γ : Type} {c : Str} {e : Addr}
theorem Inv.notFr (C : CxOk G cx) {lv : List (Addr × Obj)} (I : Inv cx g lv h) {p : Addr × Obj} (hp : p ∈ lv) : p.1 ∉ frs cx.outer := fun hf => by
 rcases (I.own p hp).2 with z | z
 ·obtain ⟨_, o, ho, _⟩ := frs_mem C.frames hf
  exact absurd (Heap.lt_size ho) (Nat.not_lt.mpr z)
 ·exact C.frD _ hf z
theorem Inv.frames (C : CxOk G cx) {lv : List (Addr × Obj)} (I : Inv cx g lv h) : h.FunFrames cx.base cx.outer :=
 funFrames_on C.frames fun b hb o ho => by
  obtain ⟨_, sl, k⟩ := I.keep b o ho (C.frD b hb)
  exact ⟨_, k, rfl⟩
theorem CxOk.baseL (C : CxOk G cx) : cx.base.get? cx.L = none := by
 cases q : cx.base.get? cx.L with
 | none => rfl
 | some o => exact absurd (Heap.lt_size (C.base _ _ q)) (Nat.not_lt.mpr C.above)
theorem Inv.framesL (C : CxOk G cx) {lv : List (Addr × Obj)} {oL : Obj} {m : Str → Option Value} (hm : NsO oL m) (I : Inv cx g ((cx.L, oL) :: lv) h) : h.FunFrames cx.base (cx.envF :: cx.outer) :=
 .cons (by rw [C.kind]; decide) C.frame (hm.ns (I.cur _ (.head _))) C.baseL (I.frames C)
theorem Inv.baseOut (C : CxOk G cx) {lv : List (Addr × Obj)} (I : Inv cx g lv h) {p : Addr × Obj} (hp : p ∈ lv) : cx.base.get? p.1 = none := by
 cases q : cx.base.get? p.1 with
 | none => rfl
 | some o =>
  rcases (I.own p hp).2 with z | z
  ·exact absurd (Heap.lt_size (C.base _ _ q)) (Nat.not_lt.mpr z)
  ·rw [C.baseD _ z] at q; cases q
theorem callAt (C : CxOk G cx) {oL : Obj} {m : Str → Option Value} {rest l : List (Addr × Obj)} (hm : NsO oL m) (I : Inv cx g ((cx.L, oL) :: (rest ++ l)) h) :
  ∃ base', CallAt G (cx.envF :: cx.outer) g base' h (l.map (·.1)) ∧ cx.base.StaysIn base' ∧ (∀ b o, h.get? b = some o → b ∉ l.map (·.1) → b ∉ frs (cx.envF :: cx.outer) → base'.get? b = some o) := by
 have nd := I.nd
 rw [map_cons, map_append, nodup_cons] at nd
 have hL : cx.L ∉ l.map (·.1) := fun q => nd.1 (mem_append_right _ q)
 have memD : ∀ a ∈ l.map (·.1), ∃ o, (a, o) ∈ (cx.L, oL) :: (rest ++ l) := fun a ha => by
  obtain ⟨p, hp, rfl⟩ := mem_map.mp ha
  exact ⟨p.2, .tail _ (mem_append_right _ hp)⟩
 have hb : ∀ b o, h.get? b = some o → b ∉ l.map (·.1) → b ∉ frs (cx.envF :: cx.outer) → (hideAll h (l.map (·.1) ++ frs (cx.envF :: cx.outer))).get? b = some o := fun b o e h1 h2 =>
  hideAll_get _ e fun q => (mem_append.mp q).elim h1 h2
 have cb : cx.base.StaysIn (hideAll h (l.map (·.1) ++ frs (cx.envF :: cx.outer))) := fun b o e => by
  refine hb b o (I.baseStays C b o e) (fun q => ?_) fun q => ?_
  ·obtain ⟨o', hp⟩ := memD b q
   rw [I.baseOut C hp] at e; cases e
  ·rw [frs_cons C.frame] at q
   rcases mem_cons.mp q with rfl | q
   ·rw [C.baseL] at e; cases e
   ·rw [(frs_mem C.frames q).1] at e; cases e
 refine ⟨hideAll h (l.map (·.1) ++ frs (cx.envF :: cx.outer)), ⟨fun b o e => cb b o (C.b₀ b o e), fun b o e => of_hideAll _ e, fun a ha => hideAll_none _ (mem_append_left _ ha), ?_, fun a ha q => ?_, hb, fun a o e => ?_, fun a o e => I.sub a o (C.gb a o e)⟩, cb, hb⟩
 ·exact funFrames_base (I.framesL C hm) fun b hb => hideAll_none _ (mem_append_right _ hb)
 ·rw [frs_cons C.frame] at ha
  rcases mem_cons.mp ha with rfl | ha
  ·exact hL q
  ·obtain ⟨o', hp⟩ := memD a q
   exact I.notFr C hp ha
 ·refine hb a o (I.old a o e) (fun q => ?_) fun q => ?_
  ·obtain ⟨o', hp⟩ := memD a q
   have := (I.own _ hp).1
   rw [e] at this; cases this
  ·rw [frs_cons C.frame] at q
   rcases mem_cons.mp q with rfl | q
   ·have := (I.own (cx.L, oL) (.head _)).1
    rw [e] at this; cases this
   ·rcases I.fresh a o e with z | z
    ·have := C.g0 a o z
     rw [(frs_mem C.frames q).1] at this; cases this
    ·rcases z with z | z
     ·obtain ⟨_, o', ho', _⟩ := frs_mem C.frames q
      exact absurd (Heap.lt_size ho') (Nat.not_lt.mpr z)
     ·exact C.frD _ q z
theorem Inv.call (C : CxOk G cx) {oL : Obj} {rest l l' : List (Addr × Obj)} (I : Inv cx g ((cx.L, oL) :: (rest ++ l)) h) (S : Sub g g') (J : OutOk h (l.map (·.1)) g (cx.envF :: cx.outer) g' l' h') :
  ∃ sl, Inv cx g' ((cx.L, { oL with slots := sl }) :: (rest ++ l')) h' := by
 obtain ⟨cx', e1, e2, e3, e4, J⟩ := J
 have nd := I.nd
 rw [map_cons, map_append, nodup_cons] at nd
 have nd2 := nodup_append.mp nd.2
 have memD : ∀ a ∈ l.map (·.1), ∃ o, (a, o) ∈ (cx.L, oL) :: (rest ++ l) := fun a ha => by
  obtain ⟨p, hp, rfl⟩ := mem_map.mp ha
  exact ⟨p.2, .tail _ (mem_append_right _ hp)⟩
 have Jk := J.keep
 rw [e1, e2, e4, frs_cons C.frame] at Jk
 have Jf := J.fresh
 rw [e1, e2, e3] at Jf
 have Js := J.size
 rw [e1] at Js
 have Jo := J.own
 rw [e1, e2] at Jo
 have hL : cx.L ∉ l.map (·.1) := fun q => nd.1 (mem_append_right _ q)
 obtain ⟨sl, hsl⟩ := (Jk cx.L oL (I.cur (cx.L, oL) (.head _)) hL).2
 have gn : ∀ p ∈ (cx.L, oL) :: rest, g' p.1 = none := fun p hp' => by
  have hp : p ∈ (cx.L, oL) :: (rest ++ l) := by
   rcases mem_cons.mp hp' with rfl | q
   ·exact .head _
   ·exact .tail _ (mem_append_left _ q)
  cases q : g' p.1 with
  | none => rfl
  | some o =>
   rcases Jf _ _ q with z | z | z
   ·rw [(I.own p hp).1] at z; cases z
   ·exact absurd (I.lvlt hp) (Nat.not_lt.mpr z)
   ·rcases mem_cons.mp hp' with rfl | q
    ·exact (hL z).elim
    ·exact (nd2.2.2 p.1 (mem_map_of_mem q) p.1 z rfl).elim
 have lrest : ∀ p ∈ l', (∀ q ∈ (cx.L, oL) :: rest, q.1 ≠ p.1) ∧ (cx.hin.objs.size ≤ p.1 ∨ p.1 ∈ cx.D) := fun p hp => by
  rcases (Jo p hp).2 with z | z
  ·refine ⟨fun q hq => Nat.ne_of_lt (Nat.lt_of_lt_of_le (I.lvlt (p := q) ?_) z), .inl (Nat.le_trans I.size z)⟩
   rcases mem_cons.mp hq with rfl | hq
   ·exact .head _
   ·exact .tail _ (mem_append_left _ hq)
  ·obtain ⟨o, ho⟩ := memD _ z
   refine ⟨fun q hq e => ?_, (I.own _ ho).2⟩
   rcases mem_cons.mp hq with rfl | hq
   ·exact hL (by rw [show cx.L = p.1 from e]; exact z)
   ·exact nd2.2.2 q.1 (mem_map_of_mem hq) p.1 z e
 refine ⟨sl, Nat.le_trans I.size Js, fun b o e hb => ?_, fun a o e => J.old a o e, fun a o e => S _ _ (I.sub a o e), fun a o e => ?_, fun p hp => ?_, fun p hp => ?_, ?_⟩
 ·obtain ⟨k1, sl₁, k2⟩ := I.keep b o e hb
  have hbD : b ∉ l.map (·.1) := fun q => by
   obtain ⟨o', ho'⟩ := memD b q
   rcases (I.own _ ho').2 with z | z
   ·exact absurd (Heap.lt_size e) (Nat.not_lt.mpr z)
   ·exact hb z
  have hbL : b ≠ cx.L := by rintro rfl; rw [C.Lnew] at e; cases e
  obtain ⟨_, sl₂, k3⟩ := Jk b _ k2 hbD
  refine ⟨fun nf => (Jk b _ (k1 nf) hbD).1 fun q => (mem_cons.mp q).elim hbL nf, sl₂, k3⟩
 ·rcases Jf a o e with z | z | z
  ·exact I.fresh a o z
  ·exact .inr (.inl (Nat.le_trans I.size z))
  ·obtain ⟨o', ho'⟩ := memD a z
   exact .inr (I.own _ ho').2
 ·rcases mem_cons.mp hp with rfl | hp
  ·exact hsl
  ·rcases mem_append.mp hp with hp | hp
   ·have hm : p ∈ (cx.L, oL) :: (rest ++ l) := .tail _ (mem_append_left _ hp)
    refine (Jk p.1 p.2 (I.cur p hm) fun q => nd2.2.2 p.1 (mem_map_of_mem hp) p.1 q rfl).1 fun q => ?_
    rcases mem_cons.mp q with q | q
    ·exact nd.1 (mem_append_left _ (mem_map.mpr ⟨p, hp, q⟩))
    ·exact I.notFr C hm q
   ·exact J.cur p hp
 ·rcases mem_cons.mp hp with rfl | hp
  ·exact ⟨gn (cx.L, oL) (.head _), (I.own (cx.L, oL) (.head _)).2⟩
  ·rcases mem_append.mp hp with hp | hp
   ·have hm : p ∈ (cx.L, oL) :: (rest ++ l) := .tail _ (mem_append_left _ hp)
    exact ⟨gn p (.tail _ hp), (I.own p hm).2⟩
   ·exact ⟨(Jo p hp).1, (lrest p hp).2⟩
 ·rw [map_cons, map_append, nodup_cons]
  refine ⟨fun q => ?_, nodup_append.mpr ⟨nd2.1, J.nd, fun a ha b hb => ?_⟩⟩
  ·rcases mem_append.mp q with q | q
   ·exact nd.1 (mem_append_left _ q)
   ·obtain ⟨p, hp, e⟩ := mem_map.mp q
    exact (lrest p hp).1 (cx.L, oL) (.head _) e.symm
  ·obtain ⟨p, hp, rfl⟩ := mem_map.mp hb
   obtain ⟨q, hq, rfl⟩ := mem_map.mp ha
   exact (lrest p hp).1 q (.tail _ hq)
theorem excOut (C : CxOk G cx) {oL : Obj} {m : Str → Option Value} {rest l : List (Addr × Obj)} (hm : NsO oL m) (I : Inv cx g ((cx.L, oL) :: (rest ++ l)) h) (hex : ∀ p ∈ ex, p ∈ rest) {base' : Heap} (cb : cx.base.StaysIn base')
  (hb : ∀ b o, h.get? b = some o → b ∉ l.map (·.1) → b ∉ frs (cx.envF :: cx.outer) → base'.get? b = some o) {Cl : Addr} (hc : nsIn G.K mainGlobals c = some (some (.ref Cl)))
  (fl : Heap.Flying base' (cx.envF :: cx.outer) e (.ref Cl) h') (up : ∀ b o, b ∈ frs (cx.envF :: cx.outer) → h.get? b = some o → ∃ sl, h'.get? b = some { o with slots := sl }) : ExcIn G cx ex c e h' := by
 obtain ⟨f1, f2, f3, oe, vs, T, oT, ts, t1, t2, t3, t4, t5, t6, t7, t8, t9⟩ := fl
 have nb : ∀ a, base'.get? a = none → cx.base.get? a = none := fun a ha => by
  cases q : cx.base.get? a with
  | none => rfl
  | some o => rw [cb _ _ q] at ha; cases ha
 have nd := I.nd
 rw [map_cons, map_append, nodup_cons] at nd
 have nd2 := nodup_append.mp nd.2
 refine ⟨fun b o q => f1 b o (cb b o q), nb e f2, funFrames_base f3 fun b hb => nb b (frs_mem f3 hb).1, fun b o hb q => ?_, fun p hp q => ?_, Cl, hc, .inr ⟨.none, oe, vs, T, oT, ts, t1, t2, t3, t4, nb _ t5, t6, t7, t8, t9⟩⟩
 ·obtain ⟨_, sl, k⟩ := I.keep b o q (C.frD b hb)
  obtain ⟨sl', k'⟩ := up b _ (by rw [frs_cons C.frame]; exact .tail _ hb) k
  exact ⟨sl', k'⟩
 ·obtain ⟨m, hm⟩ := q
  have hr := hex p hp
  have hm' : p ∈ (cx.L, oL) :: (rest ++ l) := .tail _ (mem_append_left _ hr)
  exact ⟨m, hm.ns (f1 _ _ (hb p.1 p.2 (I.cur p hm') (fun q => nd2.2.2 p.1 (mem_map_of_mem hr) p.1 q rfl) fun q => by
   rw [frs_cons C.frame] at q
   rcases mem_cons.mp q with q | q
   ·exact nd.1 (mem_append_left _ (mem_map.mpr ⟨p, hr, q⟩))
   ·exact I.notFr C hm' q))⟩
end
end
variable {Γ : Addr → Ctr}
section
noncomputable def V.recel : V → V
 | .cel _ => .cel 0
 | v => v
noncomputable def celsOf : List V → List Nat
 | [] => []
 | .cel j :: r => j :: celsOf r
 | _ :: r => celsOf r
noncomputable def noneK (v : V) (P : Prop) : Prop := match v with
 | .none => P
 | _ => False
theorem noneK_elim {v : V} {P : Prop} (h : noneK v P) : v = .none ∧ P := by cases v <;> first | exact ⟨rfl, h⟩ | exact h.elim
noncomputable def celK (m : Option M) (P : M → Prop) : Prop := match m with
 | some m => P m
 | none => True
noncomputable def callV (φ : Ctr) (vs : List V) (st : DS) (Q : V → DS → Prop) (X : Str → Prop) : Prop := match celsOf vs with
 | [] => φ vs none (fun v _ => Q v st) X
 | [j] => oElim st.mu[j]? fun m => φ (vs.map V.recel) (some m) (fun v m' => celK m' fun m₁ => Q v { st with mu := st.mu.set j m₁ }) X
 | _ => False
theorem flat_at {α : Type} {fp : List (List α)} {j : Nat} {l : List α} (h : fp[j]? = some l) (l' : List α) : fp.flatten.Perm (((fp.take j).flatten ++ (fp.drop (j + 1)).flatten) ++ l) ∧ (fp.set j l').flatten.Perm (((fp.take j).flatten ++ (fp.drop (j + 1)).flatten) ++ l') := by
 obtain ⟨hj, e⟩ := List.getElem?_eq_some_iff.mp h
 have e1 : fp = fp.take j ++ l :: fp.drop (j + 1) := by
  rw [← e]; simp
 have e2 : fp.set j l' = fp.take j ++ l' :: fp.drop (j + 1) := by
  rw [List.set_eq_take_append_cons_drop, if_pos hj]
 constructor
 ·conv => lhs; rw [e1]
  rw [List.flatten_append, flatten_cons, append_assoc]
  exact List.Perm.append_left _ perm_append_comm
 ·rw [e2, List.flatten_append, flatten_cons, append_assoc]
  exact List.Perm.append_left _ perm_append_comm
section
variable {α β γ : Type} {c : Str} {e : Addr}
theorem MusOk.set {mu : List M} {fp : List (List (Addr × Obj))} {j : Nat} {a : Addr} {m : M} {l : List (Addr × Obj)} (MO : MusOk G g ad mu fp) (hj : j < mu.length) (ha : ad[j]? = some a) (hm : MR G g ad m a l) : MusOk G g ad (mu.set j m) (fp.set j l) := by
 refine ⟨by rw [length_set, length_set]; exact MO.len, by rw [length_set]; exact MO.lad, fun i m₂ a₂ l₂ q1 q2 q3 => ?_⟩
 by_cases q : j = i
 ·subst q
  rw [List.getElem?_set_self hj] at q1
  rw [List.getElem?_set_self (MO.len.symm ▸ hj)] at q3
  exact Option.some.inj q1 ▸ Option.some.inj (ha.symm.trans q2) ▸ Option.some.inj q3 ▸ hm
 ·rw [List.getElem?_set_ne q] at q1 q3
  exact MO.rel i m₂ a₂ l₂ q1 q2 q3
theorem cel_cases (v : V) : (∃ j, v = .cel j) ∨ (v.isCel = false ∧ v.recel = v ∧ ∀ vs, celsOf (v :: vs) = celsOf vs) := by
 cases v with
 | cel j => exact .inl ⟨j, rfl⟩
 | _ => exact .inr ⟨rfl, rfl, fun _ => rfl⟩
theorem cels_both {a : Addr} {vals : List Value} (h : celsOf vs = []) (x : VRs G g ad vs vals) : VRs G g [] vs vals ∧ VRs G g [a] (vs.map V.recel) vals := by
 induction vs generalizing vals with
 | nil => exact x.nil_e ⟨.nil, .nil⟩
 | cons v vs ih =>
  refine x.cons_e fun b as q y => ?_
  rcases cel_cases v with ⟨j, e⟩ | z
  ·subst e; exact nomatch h
  ·have w := ih ((z.2.2 vs).symm.trans h) y
   rw [map_cons, z.2.1]
   exact ⟨.cons (q.close z.1) w.1, .cons (q.close z.1) w.2⟩
theorem cels_nil {vals : List Value} (h : celsOf vs = []) (x : VRs G g ad vs vals) : VRs G g [] vs vals := (cels_both (a := 0) h x).1
theorem cels_one {j : Nat} {a₀ : Addr} (ha : ad[j]? = some a₀) {vals : List Value} (h : celsOf vs = [j]) (x : VRs G g ad vs vals) : VRs G g [a₀] (vs.map V.recel) vals := by
 induction vs generalizing vals with
 | nil => exact nomatch h
 | cons v vs ih =>
  refine x.cons_e fun b as q y => ?_
  rcases cel_cases v with ⟨k, e⟩ | z
  ·subst e
   have w := List.cons.inj (show k :: celsOf vs = [j] from h)
   obtain ⟨c, ec, hc⟩ := (w.1 ▸ q : VR G g ad (.cel j) b).inv
   exact .cons (ec ▸ .cel (Option.some.inj (ha.symm.trans hc) ▸ rfl)) (cels_both w.2 y).2
  ·rw [map_cons, z.2.1]
   exact .cons (q.close z.1) (ih ((z.2.2 vs).symm.trans h) y)
theorem OutOk.nilD {D : List Addr} {fr : List Env} {l' : List (Addr × Obj)} (x : OutOk h D g fr g' l' h') : OutOk h D g fr g' [] h' := by
 obtain ⟨cx, a, b, c, d, I⟩ := x
 exact ⟨cx, a, b, c, d, I.subl (nil_sublist _)⟩
theorem LocOk.slots {oL : Obj} {cs : List (Addr × Obj)} {ls : List (Str × V)} {sl : Array (Option Value)} (x : LocOk G cx g ad oL cs ls) : LocOk G cx g ad { oL with slots := sl } cs ls :=
 ⟨x.cells, x.celld, x.ns, x.cel⟩
theorem mid_app {α : Type} {cs ex fl q l : List α} (P : fl.Perm (q ++ l)) : (cs ++ (ex ++ fl)).Perm ((cs ++ (ex ++ q)) ++ l) := by
 rw [append_assoc, append_assoc]
 exact List.Perm.append_left _ (List.Perm.append_left _ P)
theorem dep_le (d k j r : Nat) (h : j ≤ k) : d + j + k * r ≤ d + k * (r + 1) := by rw [Nat.mul_succ, Nat.add_assoc, Nat.add_comm (k * r) k]; exact Nat.add_le_add_left (Nat.add_le_add_right h _) _
theorem s_codeF {f : Addr} {φ : Ctr} {vals : List Value} {Q : V → DS → Prop} (C : CxOk G cx) (O : AOk cx A (r + 1)) (S : SoundF G r f φ) (rs : VRs G g ad vs vals) (hv : callV φ vs st Q X)
  {s : Shared} {Q' E' : Value → Shared → Prop} (R : Rel G cx ex g ad st s.heap) (hg : s.gens = #[])
  (k : ∀ v val g' st' s', Sub g g' → VR G g' [] v val → Q v st' → Rel G cx ex g' ad st' s'.heap → s'.gens = #[] → s'.os = s.os → Q' val s')
  (he : ∀ c e s', X c → ExcIn G cx ex c e s'.heap → s'.gens = #[] → s'.os = s.os → E' (.ref e) s') {A₁ : Around} (hA : A₁.frames = A.frames ∧ A₁.handled = A.handled ∧ A₁.guards = A.guards ∧ A₁.depth ≤ A.depth + 10 ∧ A₁.units ≤ A.units + 50) :
  codeAny (model G.prog G.w) A₁ (.call (.ref f) ⟨vals, []⟩) (fun r s' => match r with | .ok (.ret v) => Q' v s' | .ok _ => False | .error e => E' e s') s := by
 refine R.e fun oL cs fp I L MO => ?_
 obtain ⟨m₀, hm₀, _⟩ := L.ns
 have dep : A₁.depth + 20 * r ≤ 800 := Nat.le_trans (Nat.add_le_add_right hA.2.2.2.1 _) (Nat.le_trans (dep_le A.depth 20 10 r (by decide)) O.depth)
 have uni : A₁.units + 100 * r ≤ 9800 := Nat.le_trans (Nat.add_le_add_right hA.2.2.2.2 _) (Nat.le_trans (dep_le A.units 100 50 r (by decide)) O.units)
 unfold callV at hv
 generalize hc : celsOf vs = l at hv
 cases l with
 | nil =>
  have I' : Inv cx g ((cx.L, oL) :: ((cs ++ (ex ++ fp.flatten)) ++ [])) s.heap := (append_nil (cs ++ (ex ++ fp.flatten))).symm ▸ I
  obtain ⟨base', CA, cb, hb⟩ := callAt C hm₀ I'
  refine S A₁ s _ g base' none vals vs _ X Q' E' (hA.1.trans O.frames) (hA.2.1.trans O.handled) (hA.2.2.1.trans O.guards) dep uni hg CA (fun _ _ _ q => nomatch q) (cels_nil hc rs) hv ?_ ?_
  ·intro g' l' v val m' s' S' J rv _ _ q hg' ho
   obtain ⟨sl, I₂⟩ := I'.call C S' J.nilD
   exact k v val g' st s' S' rv q ⟨_, cs, fp, append_nil (cs ++ (ex ++ fp.flatten)) ▸ I₂, (L.mono S' (prefix_refl _)).slots, MO.mono S'⟩ hg' ho
  ·intro c e s' Cl hX hcl fl up sz hg' ho
   exact he c e s' hX (excOut C hm₀ I' (fun p hp => mem_append_right _ (mem_append_left _ hp)) cb hb hcl fl up) hg' ho
 | cons j l => cases l with
  | cons _ _ => exact False.elim hv
  | nil =>
   refine oE_e hv fun m hm hv => ?_
   obtain ⟨a, l, h1, h2, mr⟩ := MO.at hm
   have I' : Inv cx g ((cx.L, oL) :: ((cs ++ (ex ++ ((fp.take j).flatten ++ (fp.drop (j + 1)).flatten))) ++ l)) s.heap := I.perm (List.Perm.cons _ (mid_app (flat_at h2 []).1))
   obtain ⟨base', CA, cb, hb⟩ := callAt C hm₀ I'
   have nd := (nodup_cons.mp (map_cons ▸ I'.nd)).2
   refine S A₁ s _ g base' (some (m, a, l)) vals _ _ X Q' E' (hA.1.trans O.frames) (hA.2.1.trans O.handled) (hA.2.2.1.trans O.guards) dep uni hg CA (fun m' a' l' q => by
    cases q
    exact ⟨mr.any, fun p hp => I'.cur p (.tail _ (mem_append_right _ hp)), (nodup_append.mp (map_append ▸ nd)).2.1⟩) (cels_one h1 hc rs) hv ?_ ?_
   ·intro g' l' v val m' s' S' J rv _ hm' q hg' ho
    obtain ⟨m₁, e₁, mr'⟩ := hm' m a l rfl
    obtain ⟨sl, I₂⟩ := I'.call C S' J
    rw [e₁] at q
    exact k v val g' _ s' S' rv q ⟨_, cs, fp.set j l', I₂.perm (List.Perm.cons _ (mid_app (flat_at h2 l').2).symm), (L.mono S' (prefix_refl _)).slots, (MO.mono S').set (List.getElem?_eq_some_iff.mp hm).1 h1 mr'.any⟩ hg' ho
   ·intro c e s' Cl hX hcl fl up sz hg' ho
    exact he c e s' hX (excOut C hm₀ I' (fun p hp => mem_append_right _ (mem_append_left _ hp)) cb hb hcl fl up) hg' ho
theorem s_callF {f : Addr} {φ : Ctr} {vals : List Value} {Q : V → DS → Prop} (C : CxOk G cx) (O : AOk cx A (r + 1)) (S : SoundF G r f φ) (rs : VRs G g ad vs vals) (hv : callV φ vs st Q X) :
  WV G cx A ex (call (.ref f) vals) Q X g ad st := fun s Q' E' R hg k he =>
 wpAny_call (s_codeF C O S rs hv R hg (fun v val g' st' s' S' rv q R' hg' ho => k val g' ad st' s' S' (prefix_refl _) ⟨v, rv.lift, q⟩ R' hg' ho) he ⟨rfl, rfl, rfl, Nat.le_add_right _ _, Nat.le_add_right _ _⟩)
end
end
noncomputable def WS (G : Gd) (cx : Cx) (A : Around) (ex : List (Addr × Obj)) (t : Sem Flow) (N : DS → Prop) (R : V → Option DS → Prop) (X : Str → Prop) (g : PH) (ad : List Addr) (st : DS) : Prop :=
 ∀ (s : Shared) (Q' : Flow → Shared → Prop) (E' : Value → Shared → Prop), Rel G cx ex g ad st s.heap → s.gens = #[] →
  (∀ g' ad' st' s', Sub g g' → ad <+: ad' → N st' → Rel G cx ex g' ad' st' s'.heap → s'.gens = #[] → s'.os = s.os → Q' .next s') →
  (∀ v val g' ad' st' s', Sub g g' → ad <+: ad' → VR G g' [] v val → R v (some st') → Rel G cx ex g' ad' st' s'.heap → s'.gens = #[] → s'.os = s.os → Q' (.ret val) s') →
  (∀ v val g' s', Sub cx.g₀ g' → VR G g' [] v val → R v none → Inv cx g' [] s'.heap → s'.gens = #[] → s'.os = s.os → Q' (.ret val) s') →
  (∀ c e s', X c → ExcIn G cx ex c e s'.heap → s'.gens = #[] → s'.os = s.os → E' (.ref e) s') →
  wpAny (model G.prog G.w) A t Q' E' s
noncomputable def mOf (b : Bool) (st : DS) : Option M := if b then st.mu[0]? else none
inductive Pairs (G : Gd) (g : PH) (ad : List Addr) : List (Str × V) → List (Str × Value) → Prop
 | nil : Pairs G g ad [] []
 | cons {n v val ls bs} : VR G g ad v val → Pairs G g ad ls bs → Pairs G g ad ((n, v) :: ls) ((n, val) :: bs)
section
theorem Pairs.zip {ns : List Str} {vals : List Value} (x : VRs G g ad vs vals) : Pairs G g ad (ns.zip vs) (ns.zip vals) := by
 induction ns generalizing vs vals with
 | nil => rw [List.zip_nil_left, List.zip_nil_left]; exact .nil
 | cons n ns ih => cases vs with
  | nil => exact x.nil_e .nil
  | cons v vs => exact x.cons_e fun a as q y => .cons q (ih y)
noncomputable def Pairsi (G : Gd) (g : PH) (ad : List Addr) (ls : List (Str × V)) (bs : List (Str × Value)) : Prop := match ls with
 | [] => bs = []
 | p :: ls => ∃ val bs', bs = (p.1, val) :: bs' ∧ VR G g ad p.2 val ∧ Pairs G g ad ls bs'
theorem Pairs.inv {ls : List (Str × V)} {bs : List (Str × Value)} (x : Pairs G g ad ls bs) : Pairsi G g ad ls bs := Pairs.casesOn (motive := fun ls bs _ => Pairsi G g ad ls bs) x rfl fun a r => ⟨_, _, rfl, a, r⟩
theorem Pairs.names {ls : List (Str × V)} {bs : List (Str × Value)} (x : Pairs G g ad ls bs) : ls.map (·.1) = bs.map (·.1) := by
 induction x with
 | nil => rfl
 | cons _ _ ih => rw [map_cons, map_cons, ih]
theorem bindL_cons {k : Str → Option NameKind} {p : Str × Value} {bs : List (Str × Value)} {m : Str → Option Value} : bindL k (p :: bs) m = bindL k bs (if k p.1 = some .local then fun y => if y = p.1 then some p.2 else m y else m) := rfl
theorem bindC_cons {k : Str → Option NameKind} {p : Str × Value} {bs : List (Str × Value)} {m : Str → Option Value} : bindC k (p :: bs) m = bindC k bs (if k p.1 = some .local then m else fun y => if y = p.1 then some p.2 else m y) := rfl
theorem bindL_not {k : Str → Option NameKind} {x : Str} {bs : List (Str × Value)} {m : Str → Option Value} (h : x ∉ bs.map (·.1)) : bindL k bs m x = m x := by
 induction bs generalizing m with
 | nil => rfl
 | cons p bs ih =>
  rw [map_cons, mem_cons, not_or] at h
  rw [bindL_cons, ih h.2]
  by_cases q : k p.1 = some .local
  ·rw [if_pos q]; exact if_neg h.1
  ·rw [if_neg q]
theorem bindC_not {k : Str → Option NameKind} {x : Str} {bs : List (Str × Value)} {m : Str → Option Value} (h : x ∉ bs.map (·.1)) : bindC k bs m x = m x := by
 induction bs generalizing m with
 | nil => rfl
 | cons p bs ih =>
  rw [map_cons, mem_cons, not_or] at h
  rw [bindC_cons, ih h.2]
  by_cases q : k p.1 = some .local
  ·rw [if_pos q]
  ·rw [if_neg q]; exact if_neg h.1
theorem Pairs.look {k : Str → Option NameKind} {ls : List (Str × V)} {bs : List (Str × Value)} (y : Pairs G g ad ls bs) (nd : (bs.map (·.1)).Nodup) {x : Str} {v : V} {m m' : Str → Option Value} (e : ls.lookup x = some v) :
  (k x = some .local → ∃ val, bindL k bs m x = some val ∧ VR G g ad v val) ∧ (k x = some .cell → ∃ val, bindC k bs m' x = some val ∧ VR G g ad v val) := by
 induction ls generalizing bs m m' with
 | nil => exact none_some e
 | cons p ls ih =>
  obtain ⟨val, bs', eb, a, r⟩ := y.inv
  subst eb
  rw [map_cons, nodup_cons] at nd
  replace e : ((p.1, p.2) :: ls).lookup x = some v := e
  rw [look_cons0] at e
  by_cases q : (x == p.1) = true
  ·rw [if_pos q] at e
   have q := eq_of_beq q
   have e := Option.some.inj e
   subst q e
   refine ⟨fun hk => ⟨val, ?_, a⟩, fun hk => ⟨val, ?_, a⟩⟩
   ·rw [bindL_cons, bindL_not nd.1, if_pos hk]
    exact if_pos rfl
   ·rw [bindC_cons, bindC_not nd.1, if_neg (by rw [hk]; decide)]
    exact if_pos rfl
  ·rw [if_neg q] at e
   exact ih r nd.2 e
theorem cellsAre_maps {cm : Str → Option Value} {cs : List (Str × Addr)} {cells : List (Addr × Obj)} (x : CellsAre cm cs cells) : cells.map (·.1) = cs.map (·.2) ∧ (∀ p ∈ cells, ∃ v, p.2.data = .cell v) ∧ ∀ n c, cs.lookup n = some c → ∃ o, (c, o) ∈ cells ∧ o.data = .cell (cm n) := by
 induction x with
 | nil => exact ⟨rfl, fun _ h => (nomatch h), fun _ _ h => none_some h⟩
 | cons hd r ih =>
  refine ⟨by rw [map_cons, map_cons, ih.1], fun p hp => ?_, fun x y h => ?_⟩
  ·rcases mem_cons.mp hp with e | hp
   ·exact e ▸ ⟨_, hd⟩
   ·exact ih.2.1 p hp
  ·rw [look_cons0] at h
   split at h
   ·rename_i q
    exact Option.some.inj h ▸ (eq_of_beq q).symm ▸ ⟨_, .head _, hd⟩
   ·exact Exists.elim (ih.2.2 x y h) fun o q => ⟨o, .tail _ q.1, q.2⟩
theorem flat_sub {α : Type} {fp : List (List α)} {j : Nat} {l : List α} (h : fp[j]? = some l) : l.Sublist fp.flatten := List.sublist_flatten_of_mem (List.mem_of_getElem? h)
theorem cellsFrom_cons {p : Str × NameKind} {r : List (Str × NameKind)} {n : Nat} {acc : List (Str × Addr)} : cellsFrom n (p :: r) acc = if p.2 == .cell then cellsFrom (n + 1) r ((p.1, n) :: acc) else cellsFrom n r acc := rfl
theorem cellsFrom_acc {x : Str} {names : List (Str × NameKind)} {n : Nat} {acc : List (Str × Addr)} (h : (acc.lookup x).isSome = true) : ((cellsFrom n names acc).lookup x).isSome = true := by
 induction names generalizing n acc with
 | nil => exact h
 | cons p r ih =>
  rw [cellsFrom_cons]
  by_cases q : (p.2 == NameKind.cell) = true
  ·rw [if_pos q]
   refine ih ?_
   rw [look_cons0]
   by_cases z : (x == p.1) = true
   ·rw [if_pos z]; rfl
   ·rw [if_neg z]; exact h
  ·rw [if_neg q]; exact ih h
theorem cellsFrom_some {x : Str} {names : List (Str × NameKind)} {n : Nat} {acc : List (Str × Addr)} (h : names.lookup x = some .cell) : ((cellsFrom n names acc).lookup x).isSome = true := by
 induction names generalizing n acc with
 | nil => exact none_some h
 | cons p r ih =>
  replace h : ((p.1, p.2) :: r).lookup x = some .cell := h
  rw [look_cons0] at h
  rw [cellsFrom_cons]
  by_cases q : (x == p.1) = true
  ·rw [if_pos q] at h
   rw [if_pos (by rw [Option.some.inj h]; rfl)]
   refine cellsFrom_acc ?_
   rw [look_cons0, if_pos q]
   rfl
  ·rw [if_neg q] at h
   by_cases z : (p.2 == NameKind.cell) = true
   ·rw [if_pos z]; exact ih h
   ·rw [if_neg z]; exact ih h
theorem mem_look {β : Type} {l : List (Str × β)} {y : Str} {v : β} (h : l.lookup y = some v) : y ∈ l.map (·.1) := by
 induction l with
 | nil => exact none_some h
 | cons p l ih =>
  replace h : ((p.1, p.2) :: l).lookup y = some v := h
  rw [look_cons0] at h
  by_cases q : (y == p.1) = true
  ·exact mem_cons.mpr (.inl (eq_of_beq q))
  ·rw [if_neg q] at h; exact .tail _ (ih h)
theorem bor_flat {b : Option Bor} {p : Addr × Obj} (hp : p ∈ ((b.map (·.2.2)).toList).flatten) {P : Addr × Obj → Prop} (k : ∀ m a l, b = some (m, a, l) → p ∈ l → P p) : P p := by
 cases b with
 | none => exact nomatch hp
 | some q => exact k q.1 q.2.1 q.2.2 rfl (by have hp : p ∈ q.2.2 ++ [] := hp; rw [append_nil] at hp; exact hp)
theorem fn_dep (d k j r : Nat) (h : j ≤ k) : d + j + k * r ≤ d + k * (r + 1) := by rw [Nat.mul_succ, Nat.add_assoc, Nat.add_comm (k * r) k]; exact Nat.add_le_add_left (Nat.add_le_add_right h _) _
theorem fn_core {A : Around} {s : Shared} {fr : List Env} {base h₁ : Heap} {b : Option Bor} {ls : List (Str × V)} {bs : List (Str × Value)} {env : Env} {tk : Nat} (hk : env.scope.kind = .function) (hco : env.scope.isCoroutine = false) (hgen : env.scope.isGenerator = false) (hnd : ((cellsFrom 0 env.scope.names []).map (·.1)).Nodup)
  (hcs : env.cells = cellsFrom (s.heap.objs.size + 1) env.scope.names []) (hL : env.locals = s.heap.objs.size) (hfm : env.frame = some s.heap.objs.size) (hgl : env.globals = mainGlobals) (hbl : env.builtins = builtinsNs)
  (hkind : ∀ n, ∀ x ∈ bs, env.scope.names.lookup x.1 = some .local ∨ (env.scope.names.lookup x.1 = some .cell ∧ ((cellsFrom n env.scope.names []).lookup x.1).isSome = true))
  (x : InCallC s env.locals (bindL env.kindOf bs fun _ => none) env.cells (bindC env.kindOf bs fun _ => none) ⟨h₁, s.gens, s.drawn, tk, s.os⟩) (hk₁ : ∀ a o, s.heap.get? a = some o → h₁.get? a = some o)
  (hA : A.frames = some fr) (hh : A.handled = none) (hgd : A.guards = some []) (hdep : A.depth + 20 * (r + 1) ≤ 800) (hun : A.units + 100 * (r + 1) ≤ 9800)
  (CA : CallAt G fr g base s.heap (borD b)) (BO : BorOk G g s.heap b) (PR : Pairs G g (borA b) ls bs) (hbn : (bs.map (·.1)).Nodup) :
  CxOk G ⟨s.heap, borD b, g, base, fr, env, s.heap.objs.size⟩ ∧ AOk ⟨s.heap, borD b, g, base, fr, env, s.heap.objs.size⟩ (A.deeper env) r ∧ Rel G ⟨s.heap, borD b, g, base, fr, env, s.heap.objs.size⟩ [] g (borA b) ⟨ls, (b.map (·.1)).toList⟩ h₁ := by
 obtain ⟨cells, NC, Y⟩ := Cl.news (h₀ := s.heap) (Nat.le_of_eq hL.symm) (h := h₁) (cm := bindC env.kindOf bs fun _ => none) (cs := env.cells) fun n c hm => ⟨x.cell n c (lookup_of_mem_nodup (by rw [hcs]; exact cellsFrom_names env.scope.names 0 (s.heap.objs.size + 1) [] [] rfl ▸ hnd) hm), x.above n c hm⟩
 have Y123 := cellsAre_maps Y
 obtain ⟨oL, es, ep, hoL, hdL, hkL, hfL⟩ := x.toInCall.ns
 have gn : ∀ a, base.get? a = none → g a = none := fun a ha => by
  cases q : g a with
  | none => rfl
  | some o => exact none_some (ha.symm.trans (CA.old _ _ q))
 have bn : ∀ a, s.heap.objs.size ≤ a → base.get? a = none := fun a ha => by
  cases q : base.get? a with
  | none => rfl
  | some o => exact absurd (Heap.lt_size (CA.stays _ _ q)) (Nat.not_lt.mpr ha)
 have hab : ∀ p ∈ cells, s.heap.objs.size < p.1 := fun p hp => by
  obtain ⟨q, hq, e⟩ := mem_map.mp (Y123.1 ▸ mem_map_of_mem hp : p.1 ∈ env.cells.map (·.2))
  exact e ▸ hL ▸ x.above q.1 q.2 hq
 have fpl : ∀ p ∈ ((b.map (·.2.2)).toList).flatten, s.heap.get? p.1 = some p.2 ∧ p.1 ∈ borD b := fun p hp =>
  bor_flat (P := fun p => s.heap.get? p.1 = some p.2 ∧ p.1 ∈ borD b) hp fun m a l e hp => ⟨(BO m a l e).2.1 p hp, e ▸ mem_map_of_mem hp⟩
 have hL1 : h₁.get? s.heap.objs.size = some oL := hL ▸ hoL
 refine ⟨⟨CA.b₀, CA.stays, CA.baseD, CA.frames, CA.frD, hfm, hL, hk, Heap.get?_none_of_le (Nat.le_refl _), hgl, Nat.le_refl _, hgen, hco, hbl, CA.hbase, CA.old, CA.gb, fun y hy => hcs ▸ cellsFrom_some hy⟩,
  ⟨Around.frames_deeper hA, hh, hgd, Nat.le_trans (fn_dep A.depth 20 1 r (by decide)) hdep, Nat.le_trans (fn_dep A.units 100 3 r (by decide)) hun⟩, oL, cells, (b.map (·.2.2)).toList, ?_, ?_, ?_⟩
 ·refine ⟨Nat.le_of_lt (Heap.lt_size hL1), fun b o e _ => ⟨fun _ => hk₁ b o e, o.slots, hk₁ b o e⟩, fun a o e => hk₁ a o (CA.stays _ _ (CA.old a o e)), fun _ _ e => e, fun _ _ e => .inl e, fun p hp => ?_, fun p hp => ?_, ?_⟩
  ·rcases mem_cons.mp hp with e | hp
   ·exact e ▸ hL1
   ·rcases mem_append.mp hp with hp | hp
    ·exact (NC p hp).1
    ·exact hk₁ _ _ (fpl p hp).1
  ·rcases mem_cons.mp hp with e | hp
   ·exact e ▸ ⟨gn _ (bn _ (Nat.le_refl _)), .inl (Nat.le_refl _)⟩
   ·rcases mem_append.mp hp with hp | hp
    ·exact ⟨gn _ (bn _ (Nat.le_of_lt (hab p hp))), .inl (Nat.le_of_lt (hab p hp))⟩
    ·exact ⟨gn _ (CA.baseD _ (fpl p hp).2), .inr (fpl p hp).2⟩
  ·rw [map_cons, map_append, nodup_cons]
   refine ⟨fun q => ?_, nodup_append.mpr ⟨?_, ?_, fun a ha b' hb' => ?_⟩⟩
   ·rcases mem_append.mp q with q | q
    ·obtain ⟨p, hp, e⟩ := mem_map.mp q
     exact Nat.lt_irrefl _ (e ▸ hab p hp)
    ·obtain ⟨p, hp, e⟩ := mem_map.mp q
     exact Nat.lt_irrefl _ (e ▸ Heap.lt_size (fpl p hp).1)
   ·rw [Y123.1]
    exact List.pairwise_map.mpr x.apart
   ·cases b with
    | none => exact List.nodup_nil
    | some q => exact (append_nil q.2.2).symm ▸ (BO q.1 q.2.1 q.2.2 rfl).2.2
   ·obtain ⟨p, hp, e1⟩ := mem_map.mp ha
    obtain ⟨q, hq, e2⟩ := mem_map.mp hb'
    exact e1 ▸ e2 ▸ Nat.ne_of_gt (Nat.lt_trans (Heap.lt_size (fpl q hq).1) (hab p hp))
 ·refine ⟨Y123.1, Y123.2.1, ⟨_, ⟨es, ep, hdL, hkL, hfL⟩, fun y v e hl => (PR.look (m := fun _ => none) (m' := fun _ => none) hbn e).1 hl⟩, fun y v e hl => ?_⟩
  obtain ⟨val, e1, rv⟩ := (PR.look (k := env.kindOf) (m := fun _ => none) (m' := fun _ => none) hbn e).2 hl
  obtain ⟨p, hp, ep⟩ := mem_map.mp (PR.names ▸ mem_look e : y ∈ bs.map (·.1))
  rcases hkind (s.heap.objs.size + 1) p hp with z | z
  ·exact nomatch (ep ▸ z).symm.trans hl
  ·obtain ⟨c, hc⟩ := Option.isSome_iff_exists.mp z.2
   have hc : env.cells.lookup y = some c := ep ▸ hcs ▸ hc
   obtain ⟨o, ho, hod⟩ := Y123.2.2 y c hc
   exact ⟨c, o, val, hc, ho, by rw [hod, e1], rv⟩
 ·cases b with
  | none => exact ⟨rfl, rfl, fun j m a l e => none_some e⟩
  | some q =>
   refine ⟨rfl, rfl, fun j => ?_⟩
   cases j with
   | zero => exact fun m' a' l' e1 e2 e3 => Option.some.inj e1 ▸ Option.some.inj e2 ▸ Option.some.inj e3 ▸ (BO q.1 q.2.1 q.2.2 rfl).1.any
   | succ j => exact fun m' a' l' e1 e2 e3 => none_some e1
theorem fn_out {b : Option Bor} {g' : PH} {ad' : List Addr} {st' : DS} {h' : Heap} (hD : cx.D = borD b) (p : borA b <+: ad') (R : Rel G cx [] g' ad' st' h') :
  ∃ l', OutOk cx.hin (borD b) cx.g₀ cx.outer g' l' h' ∧ (b = none → mOf b.isSome st' = none) ∧ ∀ m a l, b = some (m, a, l) → ∃ m₁, mOf b.isSome st' = some m₁ ∧ MR G g' [] m₁ a l' := R.e fun oL' cs' fp' I' L' M' => by
 cases b with
 | none => exact ⟨[], ⟨cx, rfl, hD, rfl, rfl, I'.subl (nil_sublist _)⟩, fun _ => rfl, fun m a l e => nomatch e⟩
 | some q =>
  obtain ⟨m, a, l⟩ := q
  have ha : ad'[0]? = some a := pre_get p (j := 0) rfl
  have hlen : 0 < st'.mu.length := by rw [← M'.lad]; exact (List.getElem?_eq_some_iff.mp ha).1
  obtain ⟨a', l', h1, h2, mr⟩ := M'.at (List.getElem?_eq_getElem hlen)
  have ea := Option.some.inj (h1.symm.trans ha)
  subst ea
  refine ⟨l', ⟨cx, rfl, hD, rfl, rfl, I'.subl ?_⟩, fun e => (nomatch e), fun m' a'' l'' e => ⟨_, List.getElem?_eq_getElem hlen, ?_⟩⟩
  ·exact ((flat_sub h2).trans (List.sublist_append_right _ _)).trans ((List.sublist_append_right _ _).trans (List.sublist_cons_self _ _))
  ·cases e; exact mr.any
theorem fn_sound {f : Addr} {fo : Obj} {name qual : Str} {params : Arguments} {body : List Stmt} {scope : Scope} {dV kV doc pm cdv ct : Value} {an : Option Addr} {φ : Ctr}
  (ho : G.K.lookup f = some fo) (hd : fo.data = .func (fnX name qual params body scope [] dV kV doc pm an cdv ct)) (hcd : codeIn G.K cdv qual = true)
  (hk : scope.kind = .function) (hco : scope.isCoroutine = false) (hgen : scope.isGenerator = false) (hnd : ((cellsFrom 0 scope.names []).map (·.1)).Nodup)
  (bindV : List V → List (Str × V) → Prop)
  (hbind : ∀ (g : PH) (ad : List Addr) (vs : List V) (vals : List Value) (s : Shared) (Q : V → Option M → Prop) (X : Str → Prop) (m : Option M), (∀ a o, G.b₀.get? a = some o → g a = some o) → G.K.In s.heap → VRs G g ad vs vals → φ vs m Q X →
   ∃ ls bs, bindV vs ls ∧ Pairs G g ad ls bs ∧ BindsTo s (fnX name qual params body scope [] dV kV doc pm an cdv ct) ⟨vals, []⟩ bs ∧ (bs.map (·.1)).Nodup ∧
    ∀ n, ∀ x ∈ bs, scope.names.lookup x.1 = some .local ∨ (scope.names.lookup x.1 = some .cell ∧ ((cellsFrom n scope.names []).lookup x.1).isSome = true))
  (hbody : ∀ (cx : Cx) (A : Around) (g : PH) (b : Option Bor) (vs : List V) (ls : List (Str × V)) (Q : V → Option M → Prop) (X : Str → Prop), CxOk G cx → AOk cx A r → cx.envF.scope = scope → cx.D = borD b → bindV vs ls → φ vs (b.map (·.1)) Q X →
   WS G cx A [] (execs body cx.envF) (fun st => Q .none (mOf b.isSome st)) (fun v o => match o with | some st => Q v (mOf b.isSome st) | none => b = none ∧ Q v none) X g (borA b) ⟨ls, (b.map (·.1)).toList⟩) : SoundF G (r + 1) f φ := by
 intro A s fr g base b vals vs Q X Q' E' hA hh hgd hdep hun hg CA BO rs hφ kq ke
 have hb0 : G.b₀.StaysIn s.heap := fun a o e => CA.stays _ _ (CA.b₀ _ _ e)
 have KI : G.K.In s.heap := G.X.keeps hb0
 obtain ⟨ls, bs, hbv, PR, hB, hbn, hkind⟩ := hbind g (borA b) vs vals s Q X (b.map (·.1)) CA.gb KI rs hφ
 refine codeAny_call_function (by show A.depth < 1000; omega) (KI _ _ ho) hd hco hgen rfl (codeRec_of KI hcd) (hB _ _ _ _ ?_)
 refine wpAny_newFunctionEnv_cells hk (hkind _) fun env he s' x => ?_
 obtain ⟨h₁, tk, rfl, hk₁⟩ := x.done
 refine ⟨(G.T.keeps hb0).nolimit.keeps hk₁, codeAny_func ?_⟩
 have es : env.scope = scope := by rw [he]; rfl
 subst es
 obtain ⟨C, O, R0⟩ := fn_core (r := r) hk hco hgen hnd (by rw [he]; rfl) (by rw [he]; rfl) (by rw [he]; rfl) (by rw [he]; rfl) (by rw [he]; rfl) hkind x hk₁ hA hh hgd hdep hun CA BO PR hbn
 refine hbody _ (A.deeper env) g b vs ls Q X C O rfl rfl hbv hφ ⟨h₁, s.gens, s.drawn, tk, s.os⟩ _ _ R0 hg ?_ ?_ ?_ ?_
 ·intro g' ad' st' s' S p q R' hg' ho'
  obtain ⟨l', J, e1, e2⟩ := fn_out rfl p R'
  exact kq g' l' .none .none _ s' S J .none e1 e2 q hg' ho'
 ·intro v val g' ad' st' s' S p rv q R' hg' ho'
  obtain ⟨l', J, e1, e2⟩ := fn_out rfl p R'
  exact kq g' l' v val _ s' S J rv e1 e2 q hg' ho'
 ·intro v val g' s' S rv q I' hg' ho'
  exact kq g' [] v val none s' S ⟨_, rfl, rfl, rfl, rfl, I'⟩ rv (fun _ => rfl) (fun m a l e => nomatch q.1.symm.trans e) q.2 hg' ho'
 ·intro c e s' hX hE hg' ho'
  exact exc_leave (s := s') C O.frames hE fun h' Cl hc fl up sz => ke c e _ Cl hX hc fl up sz hg' ho'
end
section
noncomputable def fput : List (Str × V) → Str → V → List (Str × V)
 | [], x, v => [(x, v)]
 | (y, w) :: l, x, v => if y == x then (y, v) :: l else (y, w) :: fput l x v
theorem fput_look {y x : Str} {v : V} : ∀ {l : List (Str × V)}, (fput l x v).lookup y = if y = x then some v else l.lookup y
 | [] => by
  show ([(x, v)] : List (Str × V)).lookup y = _
  rw [lookup_cons]
  by_cases q : y = x
  ·simp [q]
  ·rw [show (y == x) = false by simpa using q, if_neg q]
 | (z, w) :: l => by
  unfold fput
  by_cases q : z = x
  ·subst q
   rw [if_pos (by simp), lookup_cons, lookup_cons]
   by_cases q : y = z
   ·simp [q]
   ·rw [show (y == z) = false by simpa using q, if_neg q]
  ·rw [if_neg (by simpa using q), lookup_cons, lookup_cons, fput_look]
   by_cases r : y = z
   ·subst r
    simp [q]
   ·rw [show (y == z) = false by simpa using r]
noncomputable def DS.set (st : DS) (x : Str) (v : V) : DS := { st with ls := fput st.ls x v }
section
variable {α β γ : Type} {c : Str} {e : Addr} {M : Model}
theorem LocOk.put {oL oL' : Obj} {cs : List (Addr × Obj)} {ls : List (Str × V)} {x : Str} {v : V} {val : Value} {m : Str → Option Value} (L : LocOk G cx g ad oL cs ls) (hm : NsO oL m) (hx : cx.envF.kindOf x = some .local) (hm' : NsO oL' (fun y => if y = x then some val else m y)) (rv : VR G g ad v val) :
  LocOk G cx g ad oL' cs ((x, v) :: ls) := by
 refine ⟨L.cells, L.celld, ⟨_, hm', fun y w e hk => ?_⟩, fun y w e hk => ?_⟩
 ·rw [lookup_cons] at e
  split at e
  ·rename_i q
   cases e
   exact ⟨val, if_pos (eq_of_beq q), rv⟩
  ·rename_i q
   obtain ⟨m₀, hm₀, hl⟩ := L.ns
   obtain ⟨w', e1, e2⟩ := hl y w e hk
   refine ⟨w', ?_, e2⟩
   show (if y = x then some val else m y) = some w'
   rw [if_neg fun z => by subst z; simp at q]
   obtain ⟨es, ep, a, b, c⟩ := hm
   obtain ⟨es', ep', a', b', c'⟩ := hm₀
   rw [a] at a'; cases a'
   rw [← c y, c' y, e1]
 ·rw [lookup_cons] at e
  split at e
  ·rename_i q
   have q := eq_of_beq q
   subst q
   rw [hx] at hk; cases hk
  ·exact L.cel y w e hk
theorem LocOk.putC {oL : Obj} {pre post : List (Addr × Obj)} {ls : List (Str × V)} {x : Str} {v : V} {val : Value} {c : Addr} {o o' : Obj} (L : LocOk G cx g ad oL (pre ++ (c, o) :: post) ls) (hx : cx.envF.kindOf x = some .cell) (hc : cx.envF.cells.lookup x = some c) (ho' : o'.data = .cell (some val)) (rv : VR G g ad v val)
  (nd : ((pre ++ (c, o) :: post).map (·.1)).Nodup) (inj : ∀ y, y ≠ x → cx.envF.cells.lookup y ≠ some c) : LocOk G cx g ad oL (pre ++ (c, o') :: post) ((x, v) :: ls) := by
 refine ⟨by rw [← L.cells]; simp, fun p hp => ?_, ?_, fun y w e hk => ?_⟩
 ·rcases mem_append.mp hp with q | q
  ·exact L.celld p (mem_append_left _ q)
  ·rcases mem_cons.mp q with rfl | q
   ·exact ⟨_, ho'⟩
   ·exact L.celld p (mem_append_right _ (.tail _ q))
 ·obtain ⟨m, hm, hl⟩ := L.ns
  refine ⟨m, hm, fun y w e hk => ?_⟩
  rw [lookup_cons] at e
  split at e
  ·rename_i q
   have q := eq_of_beq q
   subst q
   rw [hx] at hk; cases hk
  ·exact hl y w e hk
 ·rw [lookup_cons] at e
  split at e
  ·rename_i q
   have q := eq_of_beq q
   subst q
   cases e
   exact ⟨c, o', val, hc, by simp, ho', rv⟩
  ·rename_i q
   obtain ⟨c', o₁, w', e1, e2, e3, e4⟩ := L.cel y w e hk
   have hne : c' ≠ c := fun z => inj y (fun z => by subst z; simp at q) (z ▸ e1)
   refine ⟨c', o₁, w', e1, ?_, e3, e4⟩
   rcases mem_append.mp e2 with z | z
   ·exact mem_append_left _ z
   ·rcases mem_cons.mp z with z | z
    ·cases z; exact (hne rfl).elim
    ·exact mem_append_right _ (.tail _ z)
theorem LocOk.congr {oL : Obj} {cs : List (Addr × Obj)} {ls ls' : List (Str × V)} (L : LocOk G cx g ad oL cs ls) (he : ∀ x, ls'.lookup x = ls.lookup x) : LocOk G cx g ad oL cs ls' :=
 ⟨L.cells, L.celld, let ⟨m, a, b⟩ := L.ns; ⟨m, a, fun x v e => b x v (he x ▸ e)⟩, fun x v e => L.cel x v (he x ▸ e)⟩
theorem Rel.congr {ls' : List (Str × V)} (R : Rel G cx ex g ad st h) (he : ∀ x, ls'.lookup x = st.ls.lookup x) : Rel G cx ex g ad { st with ls := ls' } h :=
 let ⟨oL, cs, fp, I, L, MO⟩ := R; ⟨oL, cs, fp, I, L.congr he, MO⟩
theorem Rel.setCons {x : Str} {v : V} (R : Rel G cx ex g ad { st with ls := (x, v) :: st.ls } h) : Rel G cx ex g ad (st.set x v) h := R.congr fun y => by
 show (fput st.ls x v).lookup y = ((x, v) :: st.ls).lookup y
 rw [fput_look, lookup_cons]
 by_cases q : y = x
 ·simp [q]
 ·rw [if_neg q, show (y == x) = false by simpa using q]
theorem s_store {x : Str} {v : V} {val : Value} (C : CxOk G cx) (rv : VR G g ad v val) (hx : cx.envF.kindOf x = some .local ∨ cx.envF.kindOf x = some .cell) {Q : Unit → Shared → Prop} (R : Rel G cx ex g ad st s.heap)
  (k : ∀ h' tk, Rel G cx ex g ad (st.set x v) h' → (∀ b o, b ≠ cx.L → (∀ cs : List (Addr × Obj), cs.map (·.1) = cx.envF.cells.map (·.2) → b ∉ cs.map (·.1)) → s.heap.get? b = some o → h'.get? b = some o) → Q () { s with heap := h', toks := tk }) : wpAny M A (storeName cx.envF x val) Q E s := by
 obtain ⟨oL, cs, fp, I, L, MO⟩ := R
 rcases hx with hx | hx
 ·obtain ⟨m, hm, hl⟩ := id L.ns
  have hn := hm.ns (I.cur _ (.head _))
  rw [← C.locs] at hn
  refine wpAny_storeName_local hx hn (fun h' hn' hs => ?_) (by rw [C.kind]; rfl)
  rw [C.locs] at hn' hs
  obtain ⟨oL', es, ep, e1, e2, e3, e4⟩ := hn'
  refine k h' _ (Rel.setCons ⟨oL', cs, fp, Inv.put (pre := []) I hs e1, L.put hm hx ⟨es, ep, e2, e3, e4⟩ rv, MO⟩) fun b o hb _ e => hs.extBut b o hb e
 ·obtain ⟨c, hc⟩ := Option.isSome_iff_exists.mp (C.cellNames x hx)
  have hmem : c ∈ cs.map (·.1) := by rw [L.cells]; exact mem_map.mpr ⟨(x, c), mem_of_lookup hc, rfl⟩
  obtain ⟨p, hp, rfl⟩ := mem_map.mp hmem
  obtain ⟨c, o⟩ := p
  obtain ⟨v₀, hv₀⟩ := L.celld _ hp
  have hcur := I.cur (c, o) (lv_cs hp)
  refine wpAny_storeName_cell C.kind hx hc ⟨o, hcur, hv₀⟩ fun h' hv hs => ?_
  obtain ⟨o', ho', hd'⟩ := hv
  obtain ⟨pre, post, rfl⟩ := List.append_of_mem hp
  have ndc : ((pre ++ (c, o) :: post).map (·.1)).Nodup := by
   have nd := I.nd
   rw [map_cons, nodup_cons, map_append] at nd
   exact (nodup_append.mp nd.2).1
  have inj : ∀ y, y ≠ x → cx.envF.cells.lookup y ≠ some c := fun y hy e => by
   rw [L.cells] at ndc
   have : ∀ {l : List (Str × Addr)}, (l.map (·.2)).Nodup → ∀ {a b : Str}, (a, c) ∈ l → (b, c) ∈ l → a = b := by
    intro l
    induction l with
    | nil => intro _ a b h; cases h
    | cons q l ih =>
     intro nd a b h1 h2
     rw [map_cons, nodup_cons] at nd
     rcases mem_cons.mp h1 with h1 | h1 <;> rcases mem_cons.mp h2 with h2 | h2
     ·rw [← h1] at h2; exact (Prod.mk.inj h2).1.symm
     ·rw [← h1] at nd; exact (nd.1 (mem_map.mpr ⟨_, h2, rfl⟩)).elim
     ·rw [← h2] at nd; exact (nd.1 (mem_map.mpr ⟨_, h1, rfl⟩)).elim
     ·exact ih nd.2 h1 h2
   exact hy (this ndc (mem_of_lookup e) (mem_of_lookup hc))
  refine k h' s.toks (Rel.setCons ⟨oL, pre ++ (c, o') :: post, fp, ?_, L.putC hx hc hd' rv ndc inj, MO⟩) fun b ob hb hcs e => hs.extBut b ob ?_ e
  ·have I' : Inv cx g (((cx.L, oL) :: pre) ++ (c, o) :: (post ++ (ex ++ fp.flatten))) s.heap := by simpa using I
   have := I'.put hs ho'
   simpa using this
  ·rintro rfl
   exact hcs _ L.cells hmem
end
end
section
noncomputable def lstO (vs : List Value) (n : Nat) : Obj := { cls := .type "list", dict := .none, data := .seq vs.toArray n, slots := #[] }
section
variable {α β γ : Type} {c : Str} {e : Addr} {M : Model}
theorem Inv.swap {own own' rest : List (Addr × Obj)} (I : Inv cx g (own ++ rest) h) (ha : (own'.map (·.1)).Sublist (own.map (·.1))) (hk : ∀ b o, b ∉ own.map (·.1) → h.get? b = some o → h'.get? b = some o) (hc : ∀ p ∈ own', h'.get? p.1 = some p.2) (hs : cx.hin.objs.size ≤ h'.objs.size) :
  Inv cx g (own' ++ rest) h' := by
 have memO : ∀ p ∈ own', ∃ o, (p.1, o) ∈ own := fun p hp => by
  have : p.1 ∈ own.map (·.1) := ha.subset (mem_map_of_mem hp)
  obtain ⟨q, hq, e⟩ := mem_map.mp this
  exact ⟨q.2, e ▸ hq⟩
 have nd := I.nd
 rw [map_append] at nd
 have nd2 := nodup_append.mp nd
 have notIn : ∀ b o, cx.hin.get? b = some o → b ∉ cx.D → b ∉ own.map (·.1) := fun b o e hb q => by
  obtain ⟨p, hp, rfl⟩ := mem_map.mp q
  rcases (I.own p (mem_append_left _ hp)).2 with z | z
  ·exact absurd (Heap.lt_size e) (Nat.not_lt.mpr z)
  ·exact hb z
 have gIn : ∀ a o, g a = some o → a ∉ own.map (·.1) := fun a o e q => by
  obtain ⟨p, hp, rfl⟩ := mem_map.mp q
  rw [(I.own p (mem_append_left _ hp)).1] at e; cases e
 refine ⟨hs, fun b o e hb => ?_, fun a o e => hk a o (gIn a o e) (I.old a o e), I.sub, I.fresh, fun p hp => ?_, fun p hp => ?_, by rw [map_append]; exact (List.Sublist.append ha (List.Sublist.refl _)).nodup nd⟩
 ·obtain ⟨k1, sl, k2⟩ := I.keep b o e hb
  exact ⟨fun nf => hk _ _ (notIn b o e hb) (k1 nf), sl, hk _ _ (notIn b o e hb) k2⟩
 ·rcases mem_append.mp hp with hp | hp
  ·exact hc p hp
  ·exact hk _ _ (fun q => nd2.2.2 _ q _ (mem_map_of_mem hp) rfl) (I.cur p (mem_append_right _ hp))
 ·rcases mem_append.mp hp with hp | hp
  ·obtain ⟨o, ho⟩ := memO p hp
   exact I.own (p.1, o) (mem_append_left _ ho)
  ·exact I.own p (mem_append_right _ hp)
theorem Inv.sizeL {oL : Obj} {lv : List (Addr × Obj)} (C : CxOk G cx) (I : Inv cx g ((cx.L, oL) :: lv) h) (hk : ∃ o, h'.get? cx.L = some o) : cx.hin.objs.size ≤ h'.objs.size := by
 obtain ⟨o, e⟩ := hk
 exact Nat.le_trans C.above (Nat.le_of_lt (Heap.lt_size e))
theorem Rel.swap {own own' : List (Addr × Obj)} (C : CxOk G cx) (R : Rel G cx (own ++ ex) g ad st h) (ha : (own'.map (·.1)).Sublist (own.map (·.1))) (hk : ∀ b o, b ∉ own.map (·.1) → h.get? b = some o → h'.get? b = some o) (hc : ∀ p ∈ own', h'.get? p.1 = some p.2) : Rel G cx (own' ++ ex) g ad st h' := by
 obtain ⟨oL, cs, fp, I, L, MO⟩ := R
 have P : ((cx.L, oL) :: (cs ++ ((own ++ ex) ++ fp.flatten))).Perm (own ++ ((cx.L, oL) :: (cs ++ (ex ++ fp.flatten)))) := by
  refine List.Perm.trans (List.Perm.cons _ ?_) perm_middle.symm
  rw [append_assoc]
  exact List.perm_append_comm_assoc _ _ _
 have P' : ((cx.L, oL) :: (cs ++ ((own' ++ ex) ++ fp.flatten))).Perm (own' ++ ((cx.L, oL) :: (cs ++ (ex ++ fp.flatten)))) := by
  refine List.Perm.trans (List.Perm.cons _ ?_) perm_middle.symm
  rw [append_assoc]
  exact List.perm_append_comm_assoc _ _ _
 have hL : cx.L ∉ own.map (·.1) := fun q => by
  have nd := (I.perm P).nd
  rw [map_append, map_cons] at nd
  exact (nodup_append.mp nd).2.2 _ q _ (.head _) rfl
 exact ⟨oL, cs, fp, ((I.perm P).swap ha hk hc (I.sizeL C ⟨_, hk _ _ hL (I.cur (cx.L, oL) (.head _))⟩)).perm P'.symm, L, MO⟩
theorem Rel.perm (R : Rel G cx ex g ad st h) (p : ex.Perm ex') : Rel G cx ex' g ad st h := by
 obtain ⟨oL, cs, fp, I, L, MO⟩ := R
 exact ⟨oL, cs, fp, I.perm (List.Perm.cons _ (List.Perm.append_left _ (List.Perm.append_right _ p))), L, MO⟩
theorem Rel.drop (R : Rel G cx ex g ad st h) (p : ex'.Sublist ex) : Rel G cx ex' g ad st h := by
 obtain ⟨oL, cs, fp, I, L, MO⟩ := R
 exact ⟨oL, cs, fp, I.subl (List.Sublist.cons_cons _ (List.Sublist.append (List.Sublist.refl _) (List.Sublist.append p (List.Sublist.refl _)))), L, MO⟩
theorem Rel.pushEx (R : Rel G cx ex g ad st h) {o : Obj} (hf : o.isFreed = false) : Rel G cx ((h.objs.size, o) :: ex) g ad st (h.push o) := by
 obtain ⟨oL, cs, fp, I, L, MO⟩ := R
 refine ⟨oL, cs, fp, (I.push hf).perm ?_, L, MO⟩
 refine (List.Perm.swap _ _ _).trans (List.Perm.cons _ ?_)
 exact perm_middle.symm
theorem Rel.rest {a : Addr} {o : Obj} (R : Rel G cx ((a, o) :: ex) g ad st h) : Sub g (upd g a o) ∧ Rel G cx ex (upd g a o) ad st h := by
 obtain ⟨oL, cs, fp, I, L, MO⟩ := R
 have P : ((cx.L, oL) :: (cs ++ (((a, o) :: ex) ++ fp.flatten))).Perm ((a, o) :: ((cx.L, oL) :: (cs ++ (ex ++ fp.flatten)))) := by
  refine List.Perm.trans (List.Perm.cons _ ?_) (List.Perm.swap _ _ _)
  exact perm_middle
 have S : Sub g (upd g a o) := Sub.upd ((I.perm P).own (a, o) (.head _)).1
 exact ⟨S, oL, cs, fp, (I.perm P).freeze, L.mono S (prefix_refl _), MO.mono S⟩
theorem Rel.freezeEx {a : Addr} {o : Obj} (C : CxOk G cx) (R : Rel G cx ((a, o) :: ex) g ad st h) (ha : cx.hin.objs.size ≤ a) : Sub g (upd g a o) ∧ Rel G cx ex (upd g a o) ad st h := R.rest
theorem Rel.exL (R : Rel G cx ex g ad st h) {p : Addr × Obj} (hp : p ∈ ex) : p.1 ≠ cx.L := R.e fun oL cs fp I L MO e =>
 (nodup_cons.mp (map_cons ▸ I.nd : ((cx.L, oL).1 :: (cs ++ (ex ++ fp.flatten)).map (·.1)).Nodup)).1 (mem_map.mpr ⟨p, mem_append_right _ (mem_append_left _ hp), e⟩)
theorem Rel.exAt (R : Rel G cx ex g ad st h) {p : Addr × Obj} (hp : p ∈ ex) : h.get? p.1 = some p.2 := by
 obtain ⟨oL, cs, fp, I, L, MO⟩ := R
 exact I.cur p (lv_ex hp)
theorem Rel.exNd (R : Rel G cx ex g ad st h) : (ex.map (·.1)).Nodup := by
 obtain ⟨oL, cs, fp, I, L, MO⟩ := R
 have nd := I.nd
 rw [map_cons, nodup_cons, map_append, map_append] at nd
 exact (nodup_append.mp (nodup_append.mp nd.2).2.1).1
theorem Rel.newEx (C : CxOk G cx) (R : Rel G cx ex g ad st h) (hk : ∀ b o, h.get? b = some o → h'.get? b = some o) {a : Addr} {o : Obj} (ha : h.objs.size ≤ a) (e : h'.get? a = some o) : Rel G cx ((a, o) :: ex) g ad st h' := by
 obtain ⟨oL, cs, fp, I, L, MO⟩ := R
 have I' := I.kept (I.sizeL C ⟨_, hk _ _ (I.cur (cx.L, oL) (.head _))⟩) hk
 refine ⟨oL, cs, fp, Inv.perm (lv := (a, o) :: ((cx.L, oL) :: (cs ++ (ex ++ fp.flatten)))) ?_ ?_, L, MO⟩
 ·refine ⟨I'.size, I'.keep, I'.old, I'.sub, I'.fresh, fun p hp => ?_, fun p hp => ?_, ?_⟩
  ·rcases mem_cons.mp hp with rfl | hp
   ·exact e
   ·exact I'.cur p hp
  ·rcases mem_cons.mp hp with rfl | hp
   ·exact ⟨I.gnone ha, .inl (I.hnone ha)⟩
   ·exact I'.own p hp
  ·rw [map_cons, nodup_cons]
   exact ⟨fun hm => let ⟨p, hp, q⟩ := mem_map.mp hm; absurd (I.lvlt hp) (Nat.not_lt.mpr (q ▸ ha)), I'.nd⟩
 ·refine (List.Perm.swap _ _ _).trans (List.Perm.cons _ ?_)
  exact perm_middle.symm
theorem Rel.newExs (C : CxOk G cx) (R : Rel G cx ex g ad st h) (hk : ∀ b o, h.get? b = some o → h'.get? b = some o) {new : List (Addr × Obj)} (ha : ∀ p ∈ new, h.objs.size ≤ p.1 ∧ h'.get? p.1 = some p.2) (hnd : (new.map (·.1)).Nodup) : Rel G cx (new ++ ex) g ad st h' := by
 obtain ⟨oL, cs, fp, I, L, MO⟩ := R
 have I' := I.kept (I.sizeL C ⟨_, hk _ _ (I.cur (cx.L, oL) (.head _))⟩) hk
 refine ⟨oL, cs, fp, Inv.perm (lv := new ++ ((cx.L, oL) :: (cs ++ (ex ++ fp.flatten)))) ?_ ?_, L, MO⟩
 ·refine ⟨I'.size, I'.keep, I'.old, I'.sub, I'.fresh, fun p hp => ?_, fun p hp => ?_, ?_⟩
  ·rcases mem_append.mp hp with hp | hp
   ·exact (ha p hp).2
   ·exact I'.cur p hp
  ·rcases mem_append.mp hp with hp | hp
   ·exact ⟨I.gnone (ha p hp).1, .inl (I.hnone (ha p hp).1)⟩
   ·exact I'.own p hp
  ·rw [map_append]
   refine nodup_append.mpr ⟨hnd, I'.nd, fun x hx y hy => ?_⟩
   obtain ⟨p, hp, rfl⟩ := mem_map.mp hx
   obtain ⟨q, hq, rfl⟩ := mem_map.mp hy
   exact Nat.ne_of_gt (Nat.lt_of_lt_of_le (I.lvlt hq) (ha p hp).1)
 ·refine perm_middle.trans (List.Perm.cons _ ?_)
  rw [append_assoc]
  exact List.perm_append_comm_assoc _ _ _
end
structure Feed (G : Gd) (A : Around) (g : PH) (target : Expr) (I : Addr) (n : Nat) (bind : Nat → List (Str × V)) (fp wr : List Addr) (P Md : Nat → Value → Heap → Prop) (St : Nat → Heap → Prop) : Prop where
 K : KTurns G.prog G.w A target I fp wr n P Md St
 self : ∀ i (s : Shared) (Q : Value → Shared → Prop) (E : Value → Shared → Prop), St i s.heap → Q (.ref I) s → wpAny (model G.prog G.w) A (pyIter (.ref I)) Q E s
 live : ∀ i h, St i h → ∀ b ∈ wr, ∃ o, h.get? b = some o
 fpok : ∀ b ∈ fp, b ∈ wr ∨ ∃ o, g b = some o
 nd : wr.Nodup
 asg : ∀ i v (s : Shared) (cenv : Env) (m : Str → Option Value) (Q : Unit → Shared → Prop) (E : Value → Shared → Prop), i < n → P i v s.heap → (∀ x ∈ (bind i).map (·.1), cenv.kindOf x = some .local) → cenv.scope.kind = .function → s.heap.Ns cenv.locals m → (∀ b o, g b = some o → s.heap.get? b = some o) →
  (∀ h' tk m', h'.Ns cenv.locals m' → (∀ b o, b ≠ cenv.locals → s.heap.get? b = some o → h'.get? b = some o) → (∀ x w, (bind i).lookup x = some w → ∃ val, m' x = some val ∧ VR G g [] w val) → Q () { s with heap := h', toks := tk }) →
  wpAny (model G.prog G.w) A (assign target cenv v) Q E s
 nm : ∀ i v h x px, i < n → P i v h → target = .Name x px → ∃ y, bind i = [(x, y)] ∧ VR G g [] y v
end
section
noncomputable def compT (FE : List (Str × V) → (V → DS → Prop) → DS → Prop) (bs : List (List (Str × V))) : (List V → DS → Prop) → DS → Prop :=
 List.rec (motive := fun _ => (List V → DS → Prop) → DS → Prop) (fun Q st => Q [] st) (fun b _ k Q st => FE b (fun v st => chk (!v.isCel) (k (fun vs st => Q (v :: vs) st) st)) st) bs
structure compW (FE : List (Str × V) → (V → DS → Prop) → DS → Prop) (bs : List (List (Str × V))) (Q : List V → DS → Prop) (st : DS) : Prop where
 h : compT FE bs Q st
noncomputable def fullT (FE : List (Str × V) → (V → DS → Prop) → DS → Prop) (bs : List (List (Str × V))) (Q : V → DS → Prop) (st : DS) : Prop := chk (Nat.ble bs.length lstLine) (compW FE bs (fun vs st => Q (.lst vs) st) st)
theorem live_list {h : Heap} {wr : List Addr} (k : ∀ b ∈ wr, ∃ o, h.get? b = some o) : ∃ own : List (Addr × Obj), own.map (·.1) = wr ∧ ∀ p ∈ own, h.get? p.1 = some p.2 := by
 induction wr with
 | nil => exact ⟨[], rfl, fun _ h => (nomatch h)⟩
 | cons b wr ih =>
  obtain ⟨own, e, q⟩ := ih fun x hx => k x (.tail _ hx)
  obtain ⟨o, ho⟩ := k b (.head _)
  refine ⟨(b, o) :: own, by rw [map_cons, e], fun p hp => ?_⟩
  rcases mem_cons.mp hp with e | hp
  ·exact e ▸ ho
  ·exact q p hp
inductive CompInv (G : Gd) (cx : Cx) (ex : List (Addr × Obj)) (g₁ : PH) (ad₁ : List Addr) (Ca Da : Addr) (bs : List (List (Str × V))) (wr : List Addr) (St : Nat → Heap → Prop) (FE : List (Str × V) → (V → DS → Prop) → DS → Prop) (Qd : List V → DS → Prop) (os : _) (k : Nat) (s' : Shared) : Prop
 | mk (i : Nat) (g' : PH) (ad' : List Addr) (st' : DS) (oC : Obj) (vals : List Value) (nn : Nat) (own : List (Addr × Obj)) (vs : List V) : i ≤ bs.length → k = bs.length - i → Sub g₁ g' → ad₁ <+: ad' → (∃ m, NsO oC m) → own.map (·.1) = wr → St i s'.heap →
   Rel G cx ((Ca, oC) :: (Da, lstO vals nn) :: (own ++ ex)) g' ad' st' s'.heap → VRs G g' [] vs vals → vs.length = i → compT FE (bs.drop i) (fun ws st => Qd (vs ++ ws) st) st' → s'.gens = #[] → s'.os = os → CompInv G cx ex g₁ ad₁ Ca Da bs wr St FE Qd os k s'
theorem Ns.obj {h : Heap} {a : Addr} {m : Str → Option Value} (x : h.Ns a m) : ∃ o, h.get? a = some o ∧ NsO o m := let ⟨o, es, ep, a, b, c, d⟩ := x; ⟨o, a, es, ep, b, c, d⟩
section
variable {α β γ : Type} {c : Str} {e : Addr} {M : Model}
theorem comp_loop {target iter elt : Expr} {scope : Scope} {pos : Pos} {cenv : Env} {Ca Da I : Addr} {bs : List (List (Str × V))} {fp wr : List Addr} {P Md : Nat → Value → Heap → Prop} {St : Nat → Heap → Prop} {FE : List (Str × V) → (V → DS → Prop) → DS → Prop} {Qd : List V → DS → Prop} {R : Result → Shared → Prop}
  (C : CxOk G cx) (O : AOk cx A r) (F : Feed G A g₁ target I bs.length (fun i => bs[i]?.getD []) fp wr P Md St) (hn : bs.length ≤ lstLine)
  (hkind : cenv.scope.kind = .function) (hloc : cenv.locals = Ca) (hfr : cenv.frame = some cx.L) (hgl : cenv.globals = mainGlobals) (hbl : cenv.builtins = builtinsNs)
  (hcap : ∀ x, cenv.kindOf x = some .cell → cx.envF.kindOf x = some .cell ∧ cenv.cells.lookup x = cx.envF.cells.lookup x)
  (hnames : ∀ b ∈ bs, ∀ x ∈ b.map (·.1), cenv.kindOf x = some .local)
  (helt : ∀ b ∈ bs, ∀ g' ad' oC vals nn own st' Q, EnvOk G cx ((Ca, oC) :: (Da, lstO vals nn) :: (own ++ ex)) g' ad' ⟨cenv.scope, some b⟩ cenv → FE b Q st' → WV G cx A ((Ca, oC) :: (Da, lstO vals nn) :: (own ++ ex)) (eval elt cenv) Q X g' ad' st')
  (hR : ∀ g' ad' st' oC vals nn vs s', Sub g₁ g' → ad₁ <+: ad' → (∃ m, NsO oC m) → VRs G g' [] vs vals → Qd vs st' → vals.length ≤ lstLine → Rel G cx ((Ca, oC) :: (Da, lstO vals nn) :: ex) g' ad' st' s'.heap → s'.gens = #[] → s'.os = s.os → R (.ok .next) s')
  (hRe : ∀ c e oC vals nn own s', X c → (∃ m, NsO oC m) → ExcIn G cx ((Ca, oC) :: (Da, lstO vals nn) :: (own ++ ex)) c e s'.heap → (∃ C, nsIn G.K mainGlobals c = some (some (.ref C)) ∧ ∃ fl, TracedFl s'.heap cx.base e C fl) → s'.gens = #[] → s'.os = s.os → R (.error (.ref e)) s')
  {oC : Obj} {own : List (Addr × Obj)} (hC : ∃ m, NsO oC m) (how : own.map (·.1) = wr) (R0 : Rel G cx ((Ca, oC) :: (Da, lstO [] 0) :: (own ++ ex)) g₁ ad₁ st s.heap) (hst : St 0 s.heap) (hg : s.gens = #[]) (hF : compT FE bs Qd st) :
  codeAny (model G.prog G.w) A (.compLoop (.ListComp elt [⟨target, iter, [], 0⟩] scope pos) 0 (.ref I) (.ref Da) cenv) R s := by
 refine kcp_loop (CompInv G cx ex g₁ ad₁ Ca Da bs wr St FE Qd s.os) ?_ bs.length
  ⟨0, g₁, ad₁, st, oC, [], 0, own, [], Nat.zero_le _, rfl, Sub.refl _, prefix_refl _, hC, how, hst, R0, .nil, rfl, hF, hg, rfl⟩
 rintro k s₀ ⟨i, g', ad', st', oC, vals, nn, own, vs, hi, rfl, S, p, ⟨m, hm⟩, how, hst, R₀, rv, hvi, hFi, hg₀, ho₀⟩
 have Rp : Rel G cx (own ++ ((Ca, oC) :: (Da, lstO vals nn) :: ex)) g' ad' st' s₀.heap := R₀.perm (by
  refine (List.Perm.cons _ perm_middle.symm).trans ?_
  exact perm_middle.symm)
 by_cases hlt : i < bs.length
 ·have hdrop : bs.drop i = bs[i] :: bs.drop (i + 1) := List.drop_eq_getElem_cons hlt
  rw [hdrop] at hFi
  have hbi : (bs[i]?).getD [] = bs[i] := by rw [List.getElem?_eq_getElem hlt]; rfl
  refine F.K.item i s₀ _ _ hlt hst fun v h₁ tk₁ hMd hk₁ => ?_
  refine F.K.go i v ⟨h₁, s₀.gens, s₀.drawn, tk₁, s₀.os⟩ _ _ hMd fun h₂ hP hSt' hk₂ => ?_
  obtain ⟨own₂, how₂, hown₂⟩ := live_list (F.live (i + 1) h₂ hSt')
  have hk₁₂ : ∀ b o, b ∉ own.map (·.1) → s₀.heap.get? b = some o → h₂.get? b = some o := fun b o hb e => hk₂ b o (how ▸ hb) (hk₁ b o (how ▸ hb) e)
  have R₂ : Rel G cx (own₂ ++ ((Ca, oC) :: (Da, lstO vals nn) :: ex)) g' ad' st' h₂ := Rp.swap C (by rw [how, how₂]; exact List.Sublist.refl _) hk₁₂ hown₂
  have hnC : h₂.Ns cenv.locals m := by rw [hloc]; exact hm.ns (R₂.exAt (p := (Ca, oC)) (mem_append_right _ (.head _)))
  refine F.asg i v ⟨h₂, s₀.gens, s₀.drawn, tk₁, s₀.os⟩ cenv m _ _ hlt hP ?_ hkind hnC (fun b o e => R₂.old (S _ _ e)) fun h₃ tk₃ m' hn₃ hk₃ hb₃ => ?_
  ·rw [hbi]; exact hnames _ (List.getElem_mem hlt)
  rw [hloc] at hn₃ hk₃
  rw [hbi] at hb₃
  obtain ⟨oC', hoC', hNC'⟩ := Ns.obj hn₃
  have R₃ : Rel G cx ((Ca, oC') :: (Da, lstO vals nn) :: (own₂ ++ ex)) g' ad' st' h₃ := by
   have q : Rel G cx ([(Ca, oC)] ++ (own₂ ++ ((Da, lstO vals nn) :: ex))) g' ad' st' h₂ := R₂.perm perm_middle
   have q' : Rel G cx ([(Ca, oC')] ++ (own₂ ++ ((Da, lstO vals nn) :: ex))) g' ad' st' h₃ := q.swap C (List.Sublist.refl _) (fun b o hb e => hk₃ b o (fun z => hb (z ▸ .head _)) e) (fun p hp => mem_singleton.mp hp ▸ hoC')
   exact q'.perm (List.Perm.cons _ perm_middle)
  have EO : EnvOk G cx ((Ca, oC') :: (Da, lstO vals nn) :: (own₂ ++ ex)) g' ad' ⟨cenv.scope, some bs[i]⟩ cenv :=
   .comp hkind hgl hbl hfr hloc (.head _) hNC' (fun x w hw => Exists.elim (hb₃ x w hw) fun val z => ⟨val, z.1, z.2.mono S List.nil_prefix⟩) hcap
  have excK : ∀ (c : Str) (e : Addr) (s' : Shared) oC vals nn own, X c → (∃ m, NsO oC m) → ExcIn G cx ((Ca, oC) :: (Da, lstO vals nn) :: (own ++ ex)) c e s'.heap → s'.gens = #[] → s'.os = s₀.os → notedBy (model G.prog G.w) A cenv (fun e s' => R (.error e) s') (.ref e) s' :=
   fun c e s' oC vals nn own hX hm hE hg' ho' => exc_noted C O.frames hfr hE fun h' hE' ht => hRe c e oC vals nn own _ hX hm hE' ht hg' (ho'.trans ho₀)
  refine helt bs[i] (List.getElem_mem hlt) g' ad' oC' vals nn own₂ st' _ EO hFi ⟨h₃, s₀.gens, s₀.drawn, tk₃, s₀.os⟩ _ _ R₃ hg₀ (fun x g₄ ad₄ st₄ s₄ S₄ p₄ hx R₄ hg₄ ho₄ => ?_) fun c e s' hX hE hg' ho' => excK c e s' oC' vals nn own₂ hX ⟨_, hNC'⟩ hE hg' ho'
  obtain ⟨w, rw', hw'⟩ := hx
  have hcel := (chk_not hw').1
  have hFw := (chk_not hw').2
  have hD₄ := R₄.exAt (p := (Da, lstO vals nn)) (.tail _ (.head _))
  have hlen : vals.length ≤ lstLine := rv.len ▸ hvi ▸ Nat.le_trans hi hn
  refine append_at (its := vals.toArray) (n := nn) hD₄ (fun h₅ hs₅ hD₅ => ?_) (by rw [size_toArray]; exact Nat.le_trans hlen (by decide))
  have R₅ : Rel G cx ((Ca, oC') :: (Da, lstO (vals ++ [x]) (nn + 1)) :: (own₂ ++ ex)) g₄ ad₄ st₄ h₅ := by
   have q : Rel G cx ([(Da, lstO vals nn)] ++ ((Ca, oC') :: (own₂ ++ ex))) g₄ ad₄ st₄ s₄.heap := R₄.perm (List.Perm.swap _ _ _)
   have q' : Rel G cx ([(Da, lstO (vals ++ [x]) (nn + 1))] ++ ((Ca, oC') :: (own₂ ++ ex))) g₄ ad₄ st₄ h₅ := q.swap C (List.Sublist.refl _) (fun b o hb e => hs₅.extBut b o (fun z => hb (z ▸ .head _)) e) (fun p hp => mem_singleton.mp hp ▸ hD₅.trans (by simp [lstO]))
   exact q'.perm (List.Perm.swap _ _ _)
  refine ⟨bs.length - (i + 1), Nat.sub_lt_sub_left hlt (Nat.lt_succ_self i), i + 1, g₄, ad₄, st₄, oC', vals ++ [x], nn + 1, own₂, vs ++ [w], hlt, rfl, S.trans S₄, p.trans p₄, ⟨_, hNC'⟩, how₂, ?_, R₅, (rv.mono S₄ (prefix_refl _)).snoc (rw'.close hcel), by rw [length_append, hvi]; rfl, ?_, hg₄, ho₄.trans ho₀⟩
  ·refine F.K.frame (i + 1) h₂ h₅ hSt' fun b hb o e => ?_
   rcases F.fpok b hb with hw | ⟨o', ho'⟩
   ·rw [← how₂] at hw
    obtain ⟨q, hq, rfl⟩ := mem_map.mp hw
    rw [hown₂ q hq] at e
    cases e
    exact R₅.exAt (.tail _ (.tail _ (mem_append_left _ hq)))
   ·have := R₂.old (S _ _ ho')
    rw [this] at e
    cases e
    exact R₅.old (S₄ _ _ (S _ _ ho'))
  ·rw [show (fun ws st => Qd (vs ++ [w] ++ ws) st) = (fun ws st => Qd (vs ++ (w :: ws)) st) from funext fun ws => by rw [append_assoc]; rfl]; exact hFw
 ·have hin : i = bs.length := Nat.le_antisymm hi (Nat.not_lt.mp hlt)
  subst hin
  refine F.K.done s₀ _ _ hst fun h₁ tk₁ hk₁ => ?_
  have R₁ : Rel G cx ([] ++ ((Ca, oC) :: (Da, lstO vals nn) :: ex)) g' ad' st' h₁ := Rp.swap C (nil_sublist _) (fun b o hb e => hk₁ b o (how ▸ hb) e) (fun p hp => nomatch hp)
  rw [List.drop_length] at hFi
  exact hR g' ad' st' oC vals nn vs _ S p ⟨m, hm⟩ rv (append_nil vs ▸ hFi) (rv.len ▸ hvi ▸ hn) R₁ hg₀ ho₀
end
end
section
noncomputable def elemsOf : V → Option (List V)
 | .lst l => some l
 | .tup l => some l
 | .str s => some (s.cps.toList.map fun c => .str ⟨#[c]⟩)
 | .bytes b => some (b.toList.map fun c => .int (c.toNat : Int))
 | .rng a b => some ((List.range (b - a).toNat).map fun i : Nat => .int (a + i))
 | _ => none
noncomputable def rngOk : V → Prop
 | .rng a b => -(2 ^ 62) ≤ a ∧ a < 2 ^ 62 ∧ -(2 ^ 62) ≤ b ∧ b < 2 ^ 62
 | _ => True
inductive Fed (G : Gd) (cx : Cx) (A : Around) (ex : List (Addr × Obj)) (target : Expr) (bs : List (List (Str × V))) (g : PH) (ad : List Addr) (st : DS) (it : Value) (h : Heap) : Prop
 | mk (I : Addr) (fp wr : List Addr) (P Md : Nat → Value → Heap → Prop) (St : Nat → Heap → Prop) (own : List (Addr × Obj)) : it = .ref I → Feed G A g target I bs.length (fun i => bs[i]?.getD []) fp wr P Md St → own.map (·.1) = wr → Rel G cx (own ++ ex) g ad st h → St 0 h → Fed G cx A ex target bs g ad st it h
section
variable {α β γ : Type} {c : Str} {e : Addr} {M : Model}
theorem feed_walks {x : Str} {px : Pos} {I : Addr} {xs : List V} {fp : List Addr} {Pw : Nat → Value → Prop} {St : Nat → Heap → Prop} (W : Walks G.prog G.w A I fp [I] xs.length Pw St)
  (live : ∀ i h, St i h → ∃ o, h.get? I = some o) (fpok : ∀ b ∈ fp, b = I ∨ ∃ o, g b = some o) (hv : ∀ i v, i < xs.length → Pw i v → ∃ y, xs[i]? = some y ∧ VR G g [] y v) :
  Feed G A g (.Name x px) I (xs.map fun y => [(x, y)]).length (fun i => ((xs.map fun y => [(x, y)])[i]?).getD []) fp [I] (fun i v _ => Pw i v) (fun i v h => Pw i v ∧ St (i + 1) h) St := by
 rw [length_map]
 refine ⟨KTurns.ofWalks W fun i v s Q E _ h => wpAny_pure h, W.self, fun i h hs b hb => ?_, fun b hb => ?_, by simp, fun i v s cenv m Q E hi hP hk hkf hn hg k => ?_, fun i v h x' px' hi hP ht => ?_⟩
 ·cases hb with
  | head => exact live i h hs
  | tail _ hb => cases hb
 ·rcases fpok b hb with rfl | z
  ·exact .inl (.head _)
  ·exact .inr z
 ·obtain ⟨y, hy, ry⟩ := hv i v hi hP
  have hbi : ((xs.map fun y => [(x, y)])[i]?).getD [] = [(x, y)] := by rw [List.getElem?_map, hy]; rfl
  rw [hbi] at hk
  have hkx := hk x (.head _)
  refine wpAny_assign_Name (wpAny_storeName_local hkx hn (fun h' hn' hs' => ?_) (by rw [hkf]; rfl))
  refine k h' _ _ hn' (fun b o hb e => hs'.extBut b o hb e) fun z w hz => ?_
  rw [hbi, lookup_cons] at hz
  split at hz
  ·rename_i q; cases hz; exact ⟨v, if_pos (eq_of_beq q), ry⟩
  ·cases hz
 ·cases ht
  obtain ⟨y, hy, ry⟩ := hv i v hi hP
  exact ⟨y, by rw [List.getElem?_map, hy]; rfl, ry⟩
theorem vrs_at {l : List V} {vals : List Value} (rs : VRs G g [] l vals) {i : Nat} {v : Value} (h : vals.toArray[i]? = some v) : ∃ y, l[i]? = some y ∧ VR G g [] y v := by
 obtain ⟨y, a, b⟩ := rs.get' (i := i) (val := v) (by simpa using h)
 exact ⟨y, a, b⟩
theorem fed_push {x : Str} {px : Pos} {o : Obj} {xs : List V} {fp : List Addr} {Pw : Nat → Value → Prop} {St : Nat → Heap → Prop} (R : Rel G cx ex g ad st h) (hf : o.isFreed = false) (W : Walks G.prog G.w A h.objs.size fp [h.objs.size] xs.length Pw St)
  (live : ∀ i h', St i h' → ∃ o, h'.get? h.objs.size = some o) (fpok : ∀ b ∈ fp, b = h.objs.size ∨ ∃ o, g b = some o) (hv : ∀ i v, i < xs.length → Pw i v → ∃ y, xs[i]? = some y ∧ VR G g [] y v) (hst : St 0 (h.push o)) :
  Fed G cx A ex (.Name x px) (xs.map fun y => [(x, y)]) g ad st (.ref h.objs.size) (h.push o) :=
 ⟨_, _, _, _, _, _, [(h.objs.size, o)], rfl, feed_walks W live fpok hv, rfl, R.pushEx hf, hst⟩
theorem fed_lst {x : Str} {px : Pos} {xv : Value} {l : List V} {Q' E' : Value → Shared → Prop} (O : AOk cx A r) (ra : VR G g ad (.lst l) xv) (R : Rel G cx ex g ad st s.heap)
  (k : ∀ it h' tk, Fed G cx A ex (.Name x px) ((l).map fun y => [(x, y)]) g ad st it h' → Q' it { s with heap := h', toks := tk }) : wpAny (model G.prog G.w) A (pyIter xv) Q' E' s := by
 obtain ⟨a, vs, rfl, q, rs⟩ := ra.inv
 obtain ⟨n, q⟩ := q
 have hl : s.heap.IsList a vs.toArray := ⟨_, R.old q, rfl, n, rfl⟩
 have hlt : a < s.heap.objs.size := Heap.lt_size (R.old q)
 have W := Walks.list (prog := G.prog) (w := G.w) (A := A) O.handled s.heap.objs.size a (Nat.ne_of_lt hlt) vs.toArray
 rw [show vs.toArray.size = (l).length from size_toArray.trans rs.len.symm] at W
 refine wpAny_pyIter_list hl (k _ _ s.toks (fed_push R rfl W ?_ ?_ ?_ ?_))
 ·exact fun i h hs => let ⟨o, e, _⟩ := hs.1; ⟨o, e⟩
 ·intro b hb
  rcases mem_cons.mp hb with rfl | hb
  ·exact .inl rfl
  ·rw [mem_singleton.mp hb]; exact .inr ⟨_, q⟩
 ·exact fun i v _ hv => vrs_at rs hv
 ·exact ⟨⟨_, Heap.get?_push_size _ rfl, rfl, rfl⟩, hl.push _⟩
theorem fed_tup {x : Str} {px : Pos} {xv : Value} {l : List V} {Q' E' : Value → Shared → Prop} (O : AOk cx A r) (ra : VR G g ad (.tup l) xv) (R : Rel G cx ex g ad st s.heap)
  (k : ∀ it h' tk, Fed G cx A ex (.Name x px) ((l).map fun y => [(x, y)]) g ad st it h' → Q' it { s with heap := h', toks := tk }) : wpAny (model G.prog G.w) A (pyIter xv) Q' E' s := by
 obtain ⟨a, vs, rfl, q, rs⟩ := ra.inv
 obtain ⟨n, q⟩ := q
 have hl : s.heap.IsTuple a vs.toArray := ⟨_, R.old q, rfl, n, rfl⟩
 have hlt : a < s.heap.objs.size := Heap.lt_size (R.old q)
 have W := Walks.tuple (prog := G.prog) (w := G.w) (A := A) O.handled s.heap.objs.size a (Nat.ne_of_lt hlt) vs.toArray
 rw [show vs.toArray.size = (l).length from size_toArray.trans rs.len.symm] at W
 refine wpAny_pyIter_tuple hl (k _ _ s.toks (fed_push R rfl W ?_ ?_ ?_ ?_))
 ·exact fun i h hs => let ⟨o, e, _⟩ := hs.1; ⟨o, e⟩
 ·intro b hb
  rcases mem_cons.mp hb with rfl | hb
  ·exact .inl rfl
  ·rw [mem_singleton.mp hb]; exact .inr ⟨_, q⟩
 ·exact fun i v _ hv => vrs_at rs hv
 ·exact ⟨⟨_, Heap.get?_push_size _ rfl, rfl, rfl⟩, ⟨_, Heap.get?_push_of_some _ (R.old q), rfl, n, rfl⟩⟩
theorem fed_str {x : Str} {px : Pos} {xv : Value} {y : Str} {Q' E' : Value → Shared → Prop} (O : AOk cx A r) (ra : VR G g ad (.str y) xv) (R : Rel G cx ex g ad st s.heap)
  (k : ∀ it h' tk, Fed G cx A ex (.Name x px) ((y.cps.toList.map fun c => V.str ⟨#[c]⟩).map fun y => [(x, y)]) g ad st it h' → Q' it { s with heap := h', toks := tk }) : wpAny (model G.prog G.w) A (pyIter xv) Q' E' s := by
 obtain ⟨t, rfl⟩ := ra.inv
 have hz : (y.cps.toList.map fun c => V.str ⟨#[c]⟩).length = y.cps.size := by simp
 have hv : ∀ i v, i < (y.cps.toList.map fun c => V.str ⟨#[c]⟩).length → SignAt y i v → ∃ z, (y.cps.toList.map fun c => V.str ⟨#[c]⟩)[i]? = some z ∧ VR G g [] z v := by
  rintro i v _ ⟨c, u, e, rfl⟩
  exact ⟨.str ⟨#[c]⟩, by rw [List.getElem?_map, Array.getElem?_toList, e]; rfl, .str _ _⟩
 cases ha : y.cps.all (· < 128)
 ·have W := Walks.strWide (prog := G.prog) (w := G.w) (A := A) O.handled s.heap.objs.size y t
  rw [← hz] at W
  exact wpAny_pyIter_wide ha (k _ _ s.toks (fed_push R rfl W (fun i h hs => let ⟨o, e, _⟩ := hs; ⟨o, e⟩) (fun b hb => .inl (mem_singleton.mp hb)) hv ⟨_, Heap.get?_push_size _ rfl, rfl, rfl⟩))
 ·have W := Walks.strAscii (prog := G.prog) (w := G.w) (A := A) O.handled s.heap.objs.size y t
  rw [← hz] at W
  exact wpAny_pyIter_ascii ha (k _ _ s.toks (fed_push R rfl W (fun i h hs => let ⟨o, e, _⟩ := hs; ⟨o, e⟩) (fun b hb => .inl (mem_singleton.mp hb)) hv ⟨_, Heap.get?_push_size _ rfl, rfl, rfl⟩))
theorem fed_bytes {x : Str} {px : Pos} {xv : Value} {b : Array UInt8} {Q' E' : Value → Shared → Prop} (O : AOk cx A r) (ra : VR G g ad (.bytes b) xv) (R : Rel G cx ex g ad st s.heap)
  (k : ∀ it h' tk, Fed G cx A ex (.Name x px) ((b.toList.map fun c => V.int (c.toNat : Int)).map fun y => [(x, y)]) g ad st it h' → Q' it { s with heap := h', toks := tk }) : wpAny (model G.prog G.w) A (pyIter xv) Q' E' s := by
 obtain ⟨t, rfl⟩ := ra.inv
 have hz : (b.toList.map fun c => V.int (c.toNat : Int)).length = b.size := by simp
 have W := KBw.walks (prog := G.prog) (w := G.w) (A := A) O.handled s.heap.objs.size b t
 rw [← hz] at W
 refine KBw.pyIter_bytes (k _ _ s.toks (fed_push R rfl W (fun i h hs => let ⟨o, e, _⟩ := hs; ⟨o, e⟩) (fun b hb => .inl (mem_singleton.mp hb)) ?_ ⟨_, Heap.get?_push_size _ rfl, rfl, rfl⟩))
 rintro i v _ ⟨c, u, e, rfl⟩
 exact ⟨.int (c.toNat : Int), by rw [List.getElem?_map, Array.getElem?_toList, e]; rfl, .int _ _⟩
theorem fed_rng {x : Str} {px : Pos} {xv : Value} {a b : Int} {Q' E' : Value → Shared → Prop} (O : AOk cx A r) (ra : VR G g ad (.rng a b) xv) (hr : rngOk (.rng a b)) (R : Rel G cx ex g ad st s.heap)
  (k : ∀ it h' tk, Fed G cx A ex (.Name x px) (((List.range (b - a).toNat).map fun i : Nat => V.int (a + i)).map fun y => [(x, y)]) g ad st it h' → Q' it { s with heap := h', toks := tk }) : wpAny (model G.prog G.w) A (pyIter xv) Q' E' s := by
 obtain ⟨rr, t, u, v, rfl, q⟩ := ra.inv
 obtain ⟨h1, h2, h3, h4⟩ := hr
 have hz : ((List.range (b - a).toNat).map fun i : Nat => V.int (a + i)).length = (b - a).toNat := by simp
 have hrs : Builtin.Range.rangeSize a b 1 = (((b - a).toNat : Nat) : Int) := by
  rw [rangeSize_one]; split <;> omega
 have W := LCg.range_walks (prog := G.prog) (w := G.w) (A := A) (I := s.heap.objs.size) O.handled a (b - a).toNat
 rw [← hz] at W
 refine wpAny_pyIter_range (R.old q) (small_one h1 h2 h3 h4) (k _ _ s.toks (fed_push R rfl W (fun i h hs => ⟨_, hs⟩) (fun b hb => .inl (mem_singleton.mp hb)) ?_ ?_))
 ·rintro i v hi ⟨t, rfl⟩
  refine ⟨.int (a + i), ?_, .int _ _⟩
  rw [hz] at hi
  rw [List.getElem?_map, List.getElem?_range hi]; rfl
 ·show IsRangeIter _ _ _ _ _
  rw [hrs, hz]
  simpa using Heap.get?_push_size _ rfl
theorem fed_name {x : Str} {px : Pos} {vi : V} {xv : Value} {xs : List V} {Q' E' : Value → Shared → Prop} (C : CxOk G cx) (O : AOk cx A r) (ra : VR G g ad vi xv) (he : elemsOf vi = some xs) (hr : rngOk vi) (R : Rel G cx ex g ad st s.heap)
  (k : ∀ it h' tk, Fed G cx A ex (.Name x px) (xs.map fun y => [(x, y)]) g ad st it h' → Q' it { s with heap := h', toks := tk }) : wpAny (model G.prog G.w) A (pyIter xv) Q' E' s := by
 cases vi with
 | lst l => cases he; exact fed_lst O ra R k
 | tup l => cases he; exact fed_tup O ra R k
 | str y => cases he; exact fed_str O ra R k
 | bytes b => cases he; exact fed_bytes O ra R k
 | rng a b => cases he; exact fed_rng O ra hr R k
 | _ => exact none_some he
end
end
section
noncomputable def enumF (a b : Str) : Nat → List V → List (List (Str × V))
 | _, [] => []
 | k, x :: xs => [(a, .int k), (b, x)] :: enumF a b (k + 1) xs
theorem enumF_len (a b : Str) : ∀ (k : Nat) (xs : List V), (enumF a b k xs).length = xs.length
 | _, [] => rfl
 | k, x :: xs => by unfold enumF; rw [length_cons, enumF_len, length_cons]
theorem enumF_get (a b : Str) : ∀ (k : Nat) (xs : List V) (i : Nat), (enumF a b k xs)[i]? = xs[i]?.map fun x => [(a, .int ((k + i : Nat) : Int)), (b, x)]
 | _, [], _ => rfl
 | k, x :: xs, 0 => rfl
 | k, x :: xs, i + 1 => by
  unfold enumF
  rw [List.getElem?_cons_succ, List.getElem?_cons_succ, enumF_get a b (k + 1) xs i]
  have : k + 1 + i = k + (i + 1) := by omega
  rw [this]
section
variable {b : Array UInt8} {t : Tok}
theorem nextOf_bytes_item {it : Addr} {i : Nat} {c : UInt8} {Q : Value → Shared → Prop} (hit : KBw.IsBytesIter s.heap it b t i) (hx : b[i]? = some c)
  (hQ : ∀ h', KBw.IsBytesIter h' it b t (i + 1) → Heap.SameBut it s.heap h' → Q (.int (c.toNat : Int) s.toks) { s with heap := h', toks := s.toks + 1 }) : wpAny (model prog w) A (Builtin.SmallTypes.nextOf (.ref it)) Q E s := by
 obtain ⟨o, ho, hc, hd⟩ := id hit
 unfold Builtin.SmallTypes.nextOf
 refine wpAny_bind (wpAny_callSpecial?_slot (name := ofString "__next__") (KBw.iter_typeIs hit) KBw.slot_next
  (wpAny_call_entry KBw.slot_next (KBw.iter_typeIs hit) KBw.entry_next ?_ (KBw.args_next _)))
 show wpAny _ _ (field (.ref it) 0 >>= _) _ _ s
 refine wpAny_bind (wpAny_field ho hd (x := .bytes b t) rfl ?_)
 show wpAny _ _ (if (Value.bytes b t == Value.none) = true then _ else _) _ _ s
 rw [if_neg (show ¬ ((Value.bytes b t == Value.none) = true) from Bool.false_ne_true)]
 show wpAny _ _ (field (.ref it) 1 >>= _) _ _ s
 refine wpAny_bind (wpAny_field ho hd (x := .int i 0) rfl ?_)
 refine wpAny_bind (wpAny_of_eq (a := b) rfl ?_)
 simp only [Int.toNat_natCast, hx]
 refine wpAny_bind (wpAny_setField ho hd (by simp) (wpAny_bind (wpAny_mkInt (wpAny_pure ⟨_, rfl, wpAny_pure (hQ _ ?_ (Heap.SameBut.update ..))⟩))))
 exact ⟨_, Heap.get?_update_self _ ho (Obj.isFreed_of_fields (Obj.data_mapFields hd _)), (Obj.cls_mapFields ..).trans hc, by
  rw [Obj.data_mapFields hd]; simp [rawInt]⟩
theorem nextOf_bytes_end {it : Addr} {i : Nat} {Q : Value → Shared → Prop} (hh : A.handled = none) (hit : KBw.IsBytesIter s.heap it b t i) (hx : b[i]? = none)
  (hE : ∀ h' e, Heap.ExtBut it s.heap h' → (∃ o, h'.get? e = some o ∧ o.cls = .type "StopIteration") → E (.ref e) { s with heap := h' }) :
  wpAny (model prog w) A (Builtin.SmallTypes.nextOf (.ref it)) Q E s := by
 obtain ⟨o, ho, hc, hd⟩ := id hit
 unfold Builtin.SmallTypes.nextOf
 refine wpAny_bind (wpAny_callSpecial?_slot (name := ofString "__next__") (KBw.iter_typeIs hit) KBw.slot_next
  (wpAny_call_entry KBw.slot_next (KBw.iter_typeIs hit) KBw.entry_next ?_ (KBw.args_next _)))
 show wpAny _ _ (field (.ref it) 0 >>= _) _ _ s
 refine wpAny_bind (wpAny_field ho hd (x := .bytes b t) rfl ?_)
 show wpAny _ _ (if (Value.bytes b t == Value.none) = true then _ else _) _ _ s
 rw [if_neg (show ¬ ((Value.bytes b t == Value.none) = true) from Bool.false_ne_true)]
 show wpAny _ _ (field (.ref it) 1 >>= _) _ _ s
 refine wpAny_bind (wpAny_field ho hd (x := .int i 0) rfl ?_)
 refine wpAny_bind (wpAny_of_eq (a := b) rfl ?_)
 simp only [Int.toNat_natCast, hx]
 refine wpAny_bind (wpAny_rule (wpAny_bind (wpAny_setField ho hd (by simp) ?_)))
 show wpAny _ _ (newExc (.type "StopIteration") [] >>= _) _ _ _
 refine wpAny_bind ?_
 simp only [newExc, newTuple]
 refine wpAny_bind (wpAny_newObj_type ?_ (by size_fits))
 refine wpAny_bind (m := firstArgMember _ _) (wpAny_of_eq (a := Value.none) (by first | rfl | (simp only [firstArgMember]; rfl)) ?_)
 refine wpAny_newObj_type ?_ (by size_fits)
 simp only [raiseNew]
 refine wpAny_bind (wpAny_handled ?_)
 first | rw [show A.in1.handled = none from hh] | rw [hh]
 refine wpAny_bind (wpAny_pure (wpAny_throw ?_))
 exact hE _ _ (((Heap.SameBut.update ..).extBut.push _).push _) ⟨_, Heap.get?_push_size _ rfl, rfl⟩
theorem drawsBytes (hh : A.handled = none) (it : Addr) (b : Array UInt8) (t : Tok) :
  Draws prog w A it [it] b.size (fun i v => ∃ c u, b[i]? = some c ∧ v = .int (c.toNat : Int) u) (fun i h => KBw.IsBytesIter h it b t i) where
 live := fun _ _ st => let ⟨o, ho, _⟩ := st; ⟨o, ho⟩
 frame := fun _ _ _ st hk => let ⟨o, ho, r⟩ := st; ⟨o, hk it (by simp) o ho, r⟩
 item := fun i s Q E hi st hQ => by
  refine nextOf_bytes_item st (c := b[i]) (by simp [hi]) fun h' hit' hs' => ?_
  exact hQ _ h' (s.toks + 1) ⟨_, _, by simp [hi], rfl⟩ hit' hs'
 done := fun s Q E st hE => nextOf_bytes_end hh st (by simp) hE
end
set_option maxHeartbeats 1000000 in
theorem meets_enumerate_newB (x : Array UInt8) (t : Tok) :
  Meets (Builtin.«enumerate.__new__» ⟨[.type "enumerate", .bytes x t], []⟩) (fun _ R s =>
   R (.ok (.ret (.ref (s.heap.push { cls := .type "bytes_iterator", data := .fields #[.bytes x t, .int 0 0] }).objs.size)))
    { s with heap := (s.heap.push { cls := .type "bytes_iterator", data := .fields #[.bytes x t, .int 0 0] }).push { cls := .type "enumerate", data := .fields #[.none, .bool false, .ref s.heap.objs.size, rawInt 0, .none, .none] } }) :=
 .of_wp fun prog w A R s h => by
  obtain ⟨hp, g, d, tk, os⟩ := s
  have hsub := sub_enumerate
  wp_walk
  refine wpAny_stack_any fun st => wpAny_pure ?_
  split
  ·rename_i c _ _ _ _ _
   cases (c == Value.type "enumerate")
   ·wp_walk using KBw.pyIter_bytes
    exact ⟨_, rfl, h⟩
   ·wp_walk using KBw.pyIter_bytes
    exact ⟨_, rfl, h⟩
  ·wp_walk using KBw.pyIter_bytes
   exact ⟨_, rfl, h⟩
section
theorem feed_pairs {a b : Str} {pa pb tp : Pos} {kk : Nat} {I it : Addr} {xs : List V} {fp : List Addr} {Pt : Nat → Array Value → Prop} {St : Nat → Heap → Prop} {Mid : Nat → Addr → Heap → Prop} (hh : A.handled = none) (hab : a ≠ b)
  (W : WalksU G.prog G.w A I fp [I, it] xs.length Pt St Mid) (hne : I ≠ it) (live : ∀ i h, St i h → (∃ o, h.get? I = some o) ∧ ∃ o, h.get? it = some o) (fpok : ∀ c ∈ fp, c ∈ [I, it] ∨ ∃ o, g c = some o)
  (hv : ∀ i vals, i < xs.length → Pt i vals → ∃ t x y, vals = #[.int i t, x] ∧ xs[i]? = some y ∧ VR G g [] y x) :
  Feed G A g (.Tuple [.Name a pa, .Name b pb] kk tp) I (enumF a b 0 xs).length (fun i => ((enumF a b 0 xs)[i]?).getD []) fp [I, it] (fun i v h => ∃ T vals, v = .ref T ∧ Pt i vals ∧ h.IsTuple T vals) (fun i v h => ∃ T vals, v = .ref T ∧ Pt i vals ∧ h.IsTuple T vals ∧ Mid i T h) St := by
 rw [enumF_len]
 refine ⟨KTurns.ofWalksU W, W.self, fun i h hs c hc => ?_, fpok, by simp [hne], fun i v s cenv m Q E hi hP hk hkf hn hg k => ?_, fun i v h x' px' hi hP ht => by cases ht⟩
 ·rcases mem_cons.mp hc with rfl | hc
  ·exact (live i h hs).1
  ·rw [mem_singleton.mp hc]; exact (live i h hs).2
 ·obtain ⟨T, vals, rfl, hPt, hT⟩ := hP
  obtain ⟨t, x, y, rfl, hy, ry⟩ := hv i vals hi hPt
  have hbi : ((enumF a b 0 xs)[i]?).getD [] = [(a, .int i), (b, y)] := by rw [enumF_get, hy, Nat.zero_add]; rfl
  rw [hbi] at hk
  have ha := hk a (.head _)
  have hb := hk b (.tail _ (.head _))
  refine kcp_assign hh hT ha hb (by rw [hkf]; rfl) hn fun h' tk hn' hk' => k h' tk _ hn' hk' fun z w hz => ?_
  rw [hbi, lookup_cons] at hz
  split at hz
  ·rename_i q
   cases hz
   have q := eq_of_beq q
   subst q
   exact ⟨.int i t, by rw [if_neg hab, if_pos rfl], .int _ _⟩
  ·rw [lookup_cons] at hz
   split at hz
   ·rename_i q
    cases hz
    exact ⟨x, if_pos (eq_of_beq q), ry⟩
   ·cases hz
theorem fed_enumL {a b : Str} {pa pb tp : Pos} {kk : Nat} {l : List V} {xv : Value} {Q' : Value → Shared → Prop} (C : CxOk G cx) (O : AOk cx A r) (hab : a ≠ b) (ra : VR G g ad (.lst l) xv) (R : Rel G cx ex g ad st s.heap)
  (k : ∀ it h' tk, Fed G cx A ex (.Tuple [.Name a pa, .Name b pb] kk tp) (enumF a b 0 l) g ad st it h' → Q' it { s with heap := h', toks := tk }) : wpAny (model G.prog G.w) A (call (.type "enumerate") [xv]) (fun x s₁ => wpAny (model G.prog G.w) A (pyIter x) Q' E s₁) E s := by
 obtain ⟨a', vs, rfl, q, rs⟩ := ra.inv
 obtain ⟨n, q⟩ := q
 have hl : s.heap.IsList a' vs.toArray := ⟨_, R.old q, rfl, n, rfl⟩
 have hlt : a' < s.heap.objs.size := Heap.lt_size (R.old q)
 refine call_enumerate_list hl fun h' hE hI hsz hk => ?_
 have hne : s.heap.objs.size + 1 ≠ s.heap.objs.size := Nat.succ_ne_self _
 have W := (WalksT.enumerate (prog := G.prog) (w := G.w) (A := A) O.handled (s.heap.objs.size + 1) s.heap.objs.size a' hne (Nat.ne_of_lt (Nat.lt_succ_of_lt hlt)) (Nat.ne_of_lt hlt) vs.toArray).toU
 rw [show vs.toArray.size = l.length from size_toArray.trans rs.len.symm] at W
 have hst : (∃ old, IsEnum h' (s.heap.objs.size + 1) s.heap.objs.size ((0 : Nat) : Int) old) ∧ h'.IsListIter s.heap.objs.size a' 0 ∧ h'.IsList a' vs.toArray := ⟨⟨_, hE⟩, hI, _, hk _ _ (R.old q), rfl, n, rfl⟩
 refine W.self 0 _ _ _ hst ?_
 obtain ⟨oI, hoI, _⟩ := id hI
 have R₂ : Rel G cx ([(s.heap.objs.size + 1, _), (s.heap.objs.size, oI)] ++ ex) g ad st h' := R.newExs C hk (fun p hp => by
  rcases mem_cons.mp hp with rfl | hp
  ·exact ⟨Nat.le_succ _, hE⟩
  ·rw [mem_singleton.mp hp]; exact ⟨Nat.le_refl _, hoI⟩) (by simp)
 refine k _ _ _ ⟨_, _, _, _, _, _, _, rfl, feed_pairs O.handled hab W hne ?_ ?_ ?_, rfl, R₂, hst⟩
 ·exact fun i h hs => let ⟨⟨old, e1⟩, ⟨o, e2, _⟩, _⟩ := hs; ⟨⟨_, e1⟩, ⟨o, e2⟩⟩
 ·intro c hc
  rcases mem_cons.mp hc with rfl | hc
  ·exact .inl (.head _)
  ·rcases mem_cons.mp hc with rfl | hc
   ·exact .inl (.tail _ (.head _))
   ·rw [mem_singleton.mp hc]; exact .inr ⟨_, q⟩
 ·rintro i vals _ ⟨t, x, hx, rfl⟩
  obtain ⟨y, h1, h2⟩ := vrs_at rs hx
  exact ⟨t, x, y, rfl, h1, h2⟩
theorem fed_enumB {a b : Str} {pa pb tp : Pos} {kk : Nat} {y : Array UInt8} {xv : Value} {Q' : Value → Shared → Prop} (C : CxOk G cx) (O : AOk cx A r) (hab : a ≠ b) (ra : VR G g ad (.bytes y) xv) (R : Rel G cx ex g ad st s.heap)
  (k : ∀ it h' tk, Fed G cx A ex (.Tuple [.Name a pa, .Name b pb] kk tp) (enumF a b 0 (y.toList.map fun c => V.int (c.toNat : Int))) g ad st it h' → Q' it { s with heap := h', toks := tk }) : wpAny (model G.prog G.w) A (call (.type "enumerate") [xv]) (fun x s₁ => wpAny (model G.prog G.w) A (pyIter x) Q' E s₁) E s := by
 obtain ⟨t, rfl⟩ := ra.inv
 refine callType_new F.called_enumerate (by decide) (F.typeCall_enumerate_1 _) (F.newCall_enumerate_1 _) (fun obj => F.args_object_init_2 obj _) F.entry_enumerate_new (meets_enumerate_newB y t) ?_
 have hsz : (s.heap.push { cls := .type "bytes_iterator", data := .fields #[.bytes y t, .int 0 0] }).objs.size = s.heap.objs.size + 1 := Heap.size_push ..
 rw [hsz]
 generalize hh' : (s.heap.push { cls := .type "bytes_iterator", data := .fields #[.bytes y t, .int 0 0] }).push { cls := .type "enumerate", data := .fields #[.none, .bool false, .ref s.heap.objs.size, rawInt 0, .none, .none] } = h'
 have hE : IsEnum h' (s.heap.objs.size + 1) s.heap.objs.size ((0 : Nat) : Int) .none := by rw [← hh', ← hsz]; exact Heap.get?_push_size _ rfl
 have hI : KBw.IsBytesIter h' s.heap.objs.size y t 0 := by rw [← hh']; exact ⟨_, Heap.get?_push_of_some _ (Heap.get?_push_size _ rfl), rfl, rfl⟩
 have hk : ∀ b o, s.heap.get? b = some o → h'.get? b = some o := fun b o e => by rw [← hh']; exact Heap.get?_push_of_some _ (Heap.get?_push_of_some _ e)
 refine ⟨⟨_, hE, rfl⟩, ?_⟩
 have hne : s.heap.objs.size + 1 ≠ s.heap.objs.size := Nat.succ_ne_self _
 have W := (WalksT.enumerateD (prog := G.prog) (w := G.w) (A := A) (drawsBytes (A := A.in1) O.handled s.heap.objs.size y t) (s.heap.objs.size + 1) hne (by simp) (by simp)).toU
 have hz : (y.toList.map fun c => V.int (c.toNat : Int)).length = y.size := by simp
 rw [← hz] at W
 have hst : (∃ old, IsEnum h' (s.heap.objs.size + 1) s.heap.objs.size ((0 : Nat) : Int) old) ∧ KBw.IsBytesIter h' s.heap.objs.size y t 0 := ⟨⟨_, hE⟩, hI⟩
 refine W.self 0 _ _ _ hst ?_
 obtain ⟨oI, hoI, _⟩ := id hI
 have R₂ : Rel G cx ([(s.heap.objs.size + 1, _), (s.heap.objs.size, oI)] ++ ex) g ad st h' := R.newExs C hk (fun p hp => by
  rcases mem_cons.mp hp with rfl | hp
  ·exact ⟨Nat.le_succ _, hE⟩
  ·rw [mem_singleton.mp hp]; exact ⟨Nat.le_refl _, hoI⟩) (by simp)
 refine k _ _ s.toks ⟨_, _, _, _, _, _, _, rfl, feed_pairs O.handled hab W hne ?_ ?_ ?_, rfl, R₂, hst⟩
 ·exact fun i h hs => let ⟨⟨old, e1⟩, ⟨o, e2, _⟩⟩ := hs; ⟨⟨_, e1⟩, ⟨o, e2⟩⟩
 ·exact fun c hc => .inl hc
 ·rintro i vals _ ⟨t, x, ⟨c, u, hx, rfl⟩, rfl⟩
  exact ⟨t, _, .int (c.toNat : Int), rfl, by rw [List.getElem?_map, Array.getElem?_toList, hx]; rfl, .int _ _⟩
theorem fed_enum {a b : Str} {pa pb tp : Pos} {kk : Nat} {vi : V} {xv : Value} {xs : List V} {Q' : Value → Shared → Prop} (C : CxOk G cx) (O : AOk cx A r) (hab : a ≠ b) (ra : VR G g ad vi xv) (he : elemsOf vi = some xs) (hv : (∃ l, vi = .lst l) ∨ ∃ y, vi = .bytes y) (R : Rel G cx ex g ad st s.heap)
  (k : ∀ it h' tk, Fed G cx A ex (.Tuple [.Name a pa, .Name b pb] kk tp) (enumF a b 0 xs) g ad st it h' → Q' it { s with heap := h', toks := tk }) : wpAny (model G.prog G.w) A (call (.type "enumerate") [xv]) (fun x s₁ => wpAny (model G.prog G.w) A (pyIter x) Q' E s₁) E s := by
 rcases hv with ⟨l, rfl⟩ | ⟨y, rfl⟩
 ·cases he; exact fed_enumL C O hab ra R k
 ·cases he; exact fed_enumB C O hab ra R k
end
end
section
noncomputable def clo (env : Env) : List (Str × NameKind) → List (Str × Addr) → List (Str × Addr)
 | [], acc => acc
 | (n, k) :: r, acc => clo env r (if k == .free then (n, (env.cells.lookup n).getD 0) :: acc else acc)
theorem clo_acc {env : Env} {p : Str × Addr} : ∀ {l : List (Str × NameKind)} {acc : List (Str × Addr)}, p ∈ acc → p ∈ clo env l acc
 | [], _, h => h
 | (n, k) :: r, acc, h => by
  unfold clo
  refine clo_acc ?_
  split
  ·exact .tail _ h
  ·exact h
theorem clo_mem {env : Env} : ∀ {l : List (Str × NameKind)} {acc : List (Str × Addr)}, (∀ p ∈ l, p.2 = .free → (env.cells.lookup p.1).isSome = true) → (∀ p ∈ acc, env.cells.lookup p.1 = some p.2) → ∀ p ∈ clo env l acc, env.cells.lookup p.1 = some p.2
 | [], _, _, h => h
 | (n, k) :: r, acc, hl, h => by
  unfold clo
  refine clo_mem (fun p hp => hl p (.tail _ hp)) fun p hp => ?_
  split at hp
  ·rename_i q
   rcases mem_cons.mp hp with rfl | hp
   ·obtain ⟨a, ha⟩ := Option.isSome_iff_exists.mp (hl (n, k) (.head _) (eq_of_beq q))
    show env.cells.lookup n = some ((env.cells.lookup n).getD 0)
    rw [show env.cells.lookup n = some a from ha]; rfl
   ·exact h p hp
  ·exact h p hp
theorem clo_has {env : Env} {x : Str} : ∀ {l : List (Str × NameKind)} {acc : List (Str × Addr)}, (x, NameKind.free) ∈ l → ∃ a, (x, a) ∈ clo env l acc
 | (n, k) :: r, acc, h => by
  unfold clo
  rcases mem_cons.mp h with e | h
  ·cases e
   exact ⟨_, clo_acc (by rw [if_pos (show (NameKind.free == NameKind.free) = true from rfl)]; exact .head _)⟩
  ·exact clo_has h
theorem clo_look {env : Env} {x : Str} {l : List (Str × NameKind)} (hl : ∀ p ∈ l, p.2 = .free → (env.cells.lookup p.1).isSome = true) (h : (x, NameKind.free) ∈ l) : (clo env l []).lookup x = env.cells.lookup x := by
 obtain ⟨a, ha⟩ := clo_has (env := env) (acc := []) h
 have key : ∀ {c : List (Str × Addr)}, (x, a) ∈ c → (∀ p ∈ c, env.cells.lookup p.1 = some p.2) → c.lookup x = env.cells.lookup x := by
  intro c
  induction c with
  | nil => intro h; cases h
  | cons q c ih =>
   intro hm hk
   rw [lookup_cons]
   split
   ·rename_i z
    have z := eq_of_beq z
    rw [z]; exact (hk q (.head _)).symm
   ·rename_i z
    rcases mem_cons.mp hm with e | hm
    ·subst e; simp at z
    ·exact ih hm fun p hp => hk p (.tail _ hp)
 exact key ha (clo_mem hl fun p hp => by cases hp)
theorem closureFor_clo {scope : Scope} {env : Env} (h : ∀ p ∈ scope.names, p.2 = .free → (env.cells.lookup p.1).isSome = true) : closureFor scope env = pure (clo env scope.names []) := by
 unfold closureFor
 have key : ∀ (l : List (Str × NameKind)) (acc : List (Str × Addr)), (∀ p ∈ l, p.2 = .free → (env.cells.lookup p.1).isSome = true) →
   (forIn l acc fun (x : Str × NameKind) (r : List (Str × Addr)) => (match x with | (name, kind) => if (kind == .free) = true then do let a ← cellOf env name; pure (ForInStep.yield ((name, a) :: r)) else pure (ForInStep.yield r) : Sem (ForInStep (List (Str × Addr))))) = pure (clo env l acc) := by
  intro l
  induction l with
  | nil => intro acc _; rfl
  | cons p l ih =>
   obtain ⟨n, k⟩ := p
   intro acc hl
   rw [List.forIn_cons]
   unfold clo
   rw [← ih _ fun p hp => hl p (.tail _ hp)]
   dsimp only
   split
   ·rename_i q
    obtain ⟨a, ha⟩ := Option.isSome_iff_exists.mp (hl (n, k) (.head _) (eq_of_beq q))
    unfold cellOf
    rw [show env.cells.lookup n = some a from ha]
    rfl
   ·rfl
 exact (congrArg (fun t : Sem (List (Str × Addr)) => t >>= fun s => pure s) (key scope.names [] h)).trans rfl
noncomputable def compOk (scope sc : Scope) : Bool := scope.kind == .function && sc.kind == .function && scope.names.all (fun p => (p.2 == .local || p.2 == .free || p.2 == .globalImplicit) && (p.2 != .local || scope.names.lookup p.1 == some .local) && (p.2 != .free || sc.names.lookup p.1 == some .cell))
noncomputable def relabelV (scope sc : Scope) : Scope := { scope with names := scope.names.map fun (n, k) => if (k == .free && sc.kind == .function && sc.names.lookup n == some .cell) then (n, .cell) else (n, k) }
theorem relabelV_eq (scope : Scope) (env : Env) : relabel scope env = relabelV scope env.scope := rfl
theorem relabel_cell {scope sc : Scope} {x : Str} (h : compOk scope sc = true) (hx : (relabelV scope sc).names.lookup x = some .cell) : (x, NameKind.free) ∈ scope.names ∧ sc.names.lookup x = some .cell := by
 unfold compOk at h
 simp only [Bool.and_eq_true, all_eq_true] at h
 have key : ∀ {l : List (Str × NameKind)}, (∀ p ∈ l, p.2 ≠ .cell) → (l.map fun (n, k) => if (k == NameKind.free && sc.kind == .function && sc.names.lookup n == some .cell) then (n, NameKind.cell) else (n, k)).lookup x = some .cell → (x, NameKind.free) ∈ l ∧ sc.names.lookup x = some .cell := by
  intro l
  induction l with
  | nil => intro _ h; cases h
  | cons p l ih =>
   obtain ⟨n, k⟩ := p
   intro hc hl
   rw [map_cons] at hl
   dsimp only at hl
   by_cases q : (k == NameKind.free && sc.kind == .function && sc.names.lookup n == some .cell) = true
   ·rw [if_pos q, lookup_cons] at hl
    simp only [Bool.and_eq_true, beq_iff_eq] at q
    split at hl
    ·rename_i z
     have z := eq_of_beq z
     subst z
     rw [q.1.1]
     exact ⟨.head _, q.2⟩
    ·obtain ⟨a, b⟩ := ih (fun p hp => hc p (.tail _ hp)) hl
     exact ⟨.tail _ a, b⟩
   ·rw [if_neg q, lookup_cons] at hl
    split at hl
    ·cases hl
     exact (hc _ (.head _) rfl).elim
    ·obtain ⟨a, b⟩ := ih (fun p hp => hc p (.tail _ hp)) hl
     exact ⟨.tail _ a, b⟩
 refine key (fun p hp => ?_) hx
 have := (h.2 p hp).1.1
 intro z
 rw [z] at this
 revert this; decide
section
variable {α β γ : Type} {c : Str} {e : Addr} {M : Model}
theorem ExcIn.lose {Ca : Addr} {m : Str → Option Value} {ex₁ : List (Addr × Obj)} (x : ExcIn G cx ex₁ c e h) (hn : h.Ns Ca m) (hb : cx.base.get? Ca = none) (hfr : Ca ∉ frs (cx.envF :: cx.outer)) (hs : Heap.SameBut Ca h h') (hsub : ∀ p ∈ ex, p ∈ ex₁ ∧ p.1 ≠ Ca) : ExcIn G cx ex c e h' ∧
  ((∃ C, nsIn G.K mainGlobals c = some (some (.ref C)) ∧ ∃ fl, TracedFl h cx.base e C fl) → ∃ C, nsIn G.K mainGlobals c = some (some (.ref C)) ∧ ∃ fl, TracedFl h' cx.base e C fl) := by
 obtain ⟨oC, es, ep, hoC, hdC, _⟩ := hn
 have ne : ∀ a o vs, h.get? a = some o → o.data = .fields vs → a ≠ Ca := by
  rintro a o vs h1 h2 rfl
  rw [hoC] at h1; cases h1
  rw [hdC] at h2; cases h2
 have kf : ∀ {C : Addr}, FreshExc h e C → FreshExc h' e C := fun ⟨oe, vs, a, b, c, d⟩ => ⟨oe, vs, (hs.2 e (ne e oe vs a c)).trans a, b, c, d⟩
 have kt : ∀ {C : Addr} {fl : Value}, TracedFl h cx.base e C fl → TracedFl h' cx.base e C fl := fun ⟨oe, vs, T, oT, ts, a, b, c, d, f, g, i, j, k⟩ =>
  ⟨oe, vs, T, oT, ts, (hs.2 e (ne e oe vs a c)).trans a, b, c, d, f, g, (hs.2 T (ne T oT ts i j)).trans i, j, k⟩
 refine ⟨⟨fun b o q => (hs.2 b (by rintro rfl; rw [hb] at q; cases q)).trans (x.stays b o q), x.new, funFrames_on x.frames fun b hbf o q => ⟨o, (hs.2 b (by rintro rfl; exact hfr hbf)).trans q, rfl⟩, fun b o hbf q => ?_, fun p hp q => ?_, ?_⟩, fun ⟨C, a, fl, t⟩ => ⟨C, a, fl, kt t⟩⟩
 ·obtain ⟨sl, k⟩ := x.up b o hbf q
  refine ⟨sl, (hs.2 b ?_).trans k⟩
  rintro rfl
  refine hfr ?_
  show b ∈ List.filterMap Env.frame _
  rw [filterMap_cons]
  split
  ·exact hbf
  ·exact .tail _ hbf
 ·obtain ⟨m, hm⟩ := x.exs p (hsub p hp).1 q
  exact ⟨m, hm.sameBut hs (hsub p hp).2⟩
 ·obtain ⟨C, a, b | ⟨fl, b⟩⟩ := x.exc
  ·exact ⟨C, a, .inl (kf b)⟩
  ·exact ⟨C, a, .inr ⟨fl, kt b⟩⟩
theorem comp_block {target iter elt : Expr} {scope : Scope} {pos : Pos} {bs : List (List (Str × V))} {FE : List (Str × V) → (V → DS → Prop) → DS → Prop} {Q : V → DS → Prop} {use : Option (Value → Sem Unit)} {it : Value} {Q' E' : Value → Shared → Prop}
  (C : CxOk G cx) (O : AOk cx A r) (hok : compOk scope cx.envF.scope = true) (hn : bs.length ≤ lstLine)
  (hnames : ∀ b ∈ bs, ∀ x ∈ b.map (·.1), scope.names.lookup x = some .local)
  (helt : ∀ b ∈ bs, ∀ cenv ex₁ g' ad' st' Q, EnvOk G cx ex₁ g' ad' ⟨relabelV scope cx.envF.scope, some b⟩ cenv → FE b Q st' → WV G cx A ex₁ (eval elt cenv) Q X g' ad' st')
  (hF : compT FE bs (fun vs st => Q (.lst vs) st) st) (hfed : Fed G cx A ex target bs g ad st it s.heap) (hg : s.gens = #[])
  (hq : match use with
   | none => ∀ v g' ad' st' val s', Sub g g' → ad <+: ad' → VR G g' [] v val → Q v st' → Rel G cx ex g' ad' st' s'.heap → s'.gens = #[] → s'.os = s.os → Q' val s'
   | some u => ∀ v g' ad' st' val Ca oC s', Sub g g' → ad <+: ad' → (∃ m, NsO oC m) → VR G g' [] v val → Q v st' → Rel G cx ((Ca, oC) :: ex) g' ad' st' s'.heap → s'.gens = #[] → s'.os = s.os →
     wpAny (model G.prog G.w) A (u val) (fun _ s'' => ∃ m, s''.heap.Ns Ca m ∧ ∀ h', Heap.SameBut Ca s''.heap h' → Q' .none { s'' with heap := h' }) E' s')
  (he : ∀ c e s', X c → ExcIn G cx ex c e s'.heap → s'.gens = #[] → s'.os = s.os → E' (.ref e) s') :
  wpAny (model G.prog G.w) A (newList []) (fun acc s₃ => wpAny (model G.prog G.w) A (newFunctionEnv scope cx.envF.globals (clo cx.envF scope.names []) [] cx.envF.qual none .none (some cx.envF)) (fun cenv s₄ =>
   codeAny (model G.prog G.w) A (.compStart (.ListComp elt [⟨target, iter, [], 0⟩] scope pos) 0 it acc { cenv with scope := relabel scope cx.envF }) (compPost (model G.prog G.w) A E' use Q' acc cenv.locals) s₄) E' s₃) E' s := by
 obtain ⟨I, fp, wr, P, Md, St, own, rfl, F, how, R, hst⟩ := hfed
 have hok' := hok
 unfold compOk at hok'
 simp only [Bool.and_eq_true, all_eq_true, beq_iff_eq] at hok'
 obtain ⟨⟨hk, hk2⟩, hall⟩ := hok'
 have hcell : ∀ x ∈ scope.names, x.2 ≠ .cell := fun p hp z => by
  have := (hall p hp).1.1
  rw [z] at this
  revert this; decide
 refine wpAny_newObj_type (wpAny_newFunctionEnv hcell (by intro y hy; simp at hy) (fun h₁ hns₁ hsb₁ => ?_) hk)
 have R₁ := R.pushEx (o := { cls := .type "list", data := .seq ([] : List Value).toArray }) rfl
 have R₂ := R₁.pushEx (o := { cls := .type "dict", data := .dict #[] }) rfl
 dsimp only at hns₁ hsb₁ ⊢
 generalize hH : s.heap.push { cls := .type "list", data := .seq ([] : List Value).toArray } = H at hns₁ hsb₁ R₁ R₂ ⊢
 obtain ⟨oC, hoC, hNC⟩ := Ns.obj hns₁
 have hsz : H.objs.size = s.heap.objs.size + 1 := by rw [← hH, Heap.size_push]
 have R₃ : Rel G cx ((H.objs.size, oC) :: (s.heap.objs.size, lstO [] 0) :: (own ++ ex)) g ad st h₁ := by
  refine Rel.swap (own := [(H.objs.size, _)]) (own' := [(H.objs.size, oC)]) (ex := (s.heap.objs.size, lstO [] 0) :: (own ++ ex)) C R₂ (List.Sublist.refl _) (fun b o hb e => hsb₁.extBut b o (fun z => hb (by simp [z])) e) (fun p hp => ?_)
  rw [mem_singleton.mp hp]; exact hoC
 have hst₁ : St 0 h₁ := F.K.frame 0 s.heap h₁ hst fun b hb o e => by
  rcases F.fpok b hb with hw | ⟨o', ho'⟩
  ·rw [← how] at hw
   obtain ⟨q, hq, rfl⟩ := mem_map.mp hw
   have e1 := R.exAt (p := q) (mem_append_left _ hq)
   rw [e1] at e; cases e
   exact R₃.exAt (.tail _ (.tail _ (mem_append_left _ hq)))
  ·have e1 := R.old ho'
   rw [e1] at e; cases e
   exact R₃.old ho'
 have hge : ∀ a, s.heap.objs.size ≤ a → cx.base.get? a = none ∧ a ∉ frs (cx.envF :: cx.outer) ∧ cx.hin.objs.size ≤ a := fun a ha => by
  obtain ⟨lv, J⟩ := R.inv
  have h1 : cx.hin.objs.size ≤ a := Nat.le_trans J.size ha
  refine ⟨?_, fun q => ?_, h1⟩
  ·cases q : cx.base.get? a with
   | none => rfl
   | some o => exact absurd (Heap.lt_size (C.base _ _ q)) (Nat.not_lt.mpr h1)
  ·rw [frs_cons C.frame] at q
   rcases mem_cons.mp q with rfl | q
   ·exact absurd R.lt (Nat.not_lt.mpr ha)
   ·obtain ⟨_, o, ho, _⟩ := frs_mem C.frames q
    exact absurd (Heap.lt_size ho) (Nat.not_lt.mpr h1)
 have hCa := hge H.objs.size (by rw [hsz]; exact Nat.le_succ _)
 have hDa := hge s.heap.objs.size (Nat.le_refl _)
 have hexne : ∀ p ∈ ex, p.1 ≠ H.objs.size := fun p hp => by
  have : p.1 < s.heap.objs.size := Heap.lt_size (R.exAt (mem_append_right _ hp))
  rw [hsz]; exact Nat.ne_of_lt (Nat.lt_succ_of_lt this)
 have hcap : ∀ x, (relabelV scope cx.envF.scope).names.lookup x = some .cell → cx.envF.kindOf x = some .cell ∧ (clo cx.envF scope.names []).lookup x = cx.envF.cells.lookup x := fun x hx => by
  obtain ⟨q1, q2⟩ := relabel_cell hok hx
  refine ⟨q2, clo_look (fun p hp hf => ?_) q1⟩
  have := (hall p hp).2
  rw [hf] at this
  have this : cx.envF.scope.names.lookup p.1 = some .cell := by simpa using this
  exact C.cellNames p.1 this
 have loop : ∀ tk, codeAny (model G.prog G.w) A (.compLoop (.ListComp elt [⟨target, iter, [], 0⟩] scope pos) 0 (.ref I) (.ref s.heap.objs.size) { newEnv scope H.objs.size cx.envF.globals (clo cx.envF scope.names []) cx.envF.qual none .none (some cx.envF) builtinsNs with scope := relabel scope cx.envF })
   (compPost (model G.prog G.w) A E' use Q' (.ref s.heap.objs.size) H.objs.size) { heap := h₁, gens := s.gens, drawn := s.drawn, toks := tk, os := s.os } := by
  intro tk
  refine comp_loop (X := X) (ad₁ := ad) (r := r) (FE := FE) (Qd := fun vs st => Q (.lst vs) st) C O F hn (cenv := { newEnv scope H.objs.size cx.envF.globals (clo cx.envF scope.names []) cx.envF.qual none .none (some cx.envF) builtinsNs with scope := relabel scope cx.envF }) (by exact hk) rfl (by exact C.frame) (by exact C.globs) (by exact C.blt) (fun x hx => hcap x hx) (fun b hb x hx => ?_) (fun b hb g' ad' oC vals nn own st' Q EO hFE => ?_) ?_ ?_ ⟨_, hNC⟩ how R₃ hst₁ hg hF
  ·exact lookup_relabel_local (env := cx.envF) (hnames b hb x hx)
  ·exact helt b hb _ _ g' ad' st' Q EO hFE
  ·intro g' ad' st' oC vals nn vs s' S p hm rv hQd hl R' hg' ho'
   have R'' : Rel G cx ((s.heap.objs.size, lstO vals nn) :: ((H.objs.size, oC) :: ex)) g' ad' st' s'.heap := R'.perm (List.Perm.swap _ _ _)
   obtain ⟨S', R₄⟩ := R''.freezeEx C hDa.2.2
   have rV : VR G (upd g' s.heap.objs.size (lstO vals nn)) [] (.lst vs) (.ref s.heap.objs.size) := .lst ⟨nn, upd_self _ _ _⟩ (rv.mono S' (prefix_refl _))
   cases use with
   | none =>
    obtain ⟨m, hm⟩ := hm
    refine ⟨m, hm.ns (R₄.exAt (p := (H.objs.size, oC)) (.head _)), fun h' hs' => ?_⟩
    refine hq (.lst vs) _ ad' st' _ _ (S.trans S') p rV hQd ?_ hg' ho'
    exact Rel.swap (own := [(H.objs.size, oC)]) (own' := []) (ex := ex) C R₄ (nil_sublist _) (fun b o hb e => hs'.extBut b o (fun z => hb (by simp [z])) e) (fun p hp => by cases hp)
   | some u => exact hq (.lst vs) _ ad' st' _ _ oC s' (S.trans S') p hm rV hQd R₄ hg' ho'
  ·intro c e oC vals nn own s' hX hm hE ht hg' ho'
   obtain ⟨m, hm'⟩ := hE.exs _ (.head _) hm
   have go : ∃ m, s'.heap.Ns H.objs.size m ∧ ∀ h', Heap.SameBut H.objs.size s'.heap h' → ∀ cenv : Env, cenv.locals = H.objs.size → wpAny (model G.prog G.w) A (PySem.passOn "comprehension.variables-let-go" (.ref e) cenv : Sem Value) (fun _ _ => False) E' { s' with heap := h' } := by
    refine ⟨m, hm', fun h' hs' cenv _ => ?_⟩
    obtain ⟨hE', ht'⟩ := hE.lose (ex := ex) hm' hCa.1 hCa.2.1 hs' fun p hp => ⟨.tail _ (.tail _ (mem_append_right _ hp)), hexne p hp⟩
    exact exc_pass (s := { s' with heap := h' }) hE' (ht' ht) fun h'' hE'' => he c e _ hX hE'' hg' ho'
   cases use <;> exact go
 refine codeAny_compStart_list (rest := []) (loop _) ?_
 exact F.self 0 _ _ _ hst₁ (loop _)
end
end
section
section
theorem bb_bytes : typeLookup (.type "bytes") "__bytes__" = pure (some (.builtin "bytes.__bytes__")) := by rw [typeLookup_type, builtinLookup_eq_fast]; kernel_rfl
theorem bb_new {b : Array UInt8} {t : Tok} {Q : Value → Shared → Prop} (hQ : Q (.bytes b t) s) : codeAny (model prog w) A (.call (.builtin "bytes.__new__") ⟨[.type "bytes", .bytes b t], []⟩) (wants Q E) s := by
 refine codeAny_of_tree ?_
 show wpAny _ A.in1 (do checkBuiltinCall "bytes.__new__" ⟨[.type "bytes", .bytes b t], []⟩; again (.builtin "bytes.__new__" ⟨[.type "bytes", .bytes b t], []⟩)) _ _ s
 refine wpAny_bind (wpAny_of_eq (F.bm_newCall _) (wpAny_pure ⟨plainId_quiet F.bm_plain _, codeAny_builtin F.bm_entry ?_⟩))
 rw [Around.under_plainId F.bm_plain _]
 have hT : s.TypeIs (.bytes b t) "bytes" := typeIs_bytes s b t
 unfold Builtin.«bytes.__new__»
 refine wpAny_bind (wpAny_of_eq (a := true) rfl ?_)
 refine bm_if_false rfl ?_
 refine wpAny_bind (wpAny_of_eq F.bm_sub ?_)
 refine bm_if_false rfl ?_
 refine wpAny_bind (wpAny_of_eq (F.bm_bind _) ?_)
 refine wpAny_bind (wpAny_of_eq (a := ()) rfl ?_)
 refine wpAny_bind (wpAny_of_eq (a := ()) rfl ?_)
 refine bm_if_false rfl ?_
 refine wpAny_bind (wpAny_specialOf hT bb_bytes ?_)
 refine wpAny_bind (wpAny_rule ?_)
 refine wpAny_bind (wpAny_typeOf hT ?_)
 refine bm_if_true (by decide) ?_
 show wpAny _ _ (if (Value.type "bytes" == Value.type "bytes") = true then _ else _) _ _ _
 refine bm_if_true (by decide) ?_
 first
  | exact wpAny_pure hQ
  | exact wpAny_bind (wpAny_pure (wpAny_pure hQ))
theorem call_bytes_bytes {b : Array UInt8} {t : Tok} {Q : Value → Shared → Prop} (hQ : Q (.bytes b t) s) : wpAny (model prog w) A (call (.type "bytes") [.bytes b t]) Q E s := by
 refine callType_codes (Q₁ := fun obj s₁ => s₁.TypeIs obj "bytes" ∧ Q obj s₁) F.bm_called (F.bm_typeCall _) F.entry_object_init (bb_new ⟨typeIs_bytes _ _ _, hQ⟩) fun obj s₁ h₁ => ?_
 exact ⟨h₁.1, F.args_object_init_2 obj _, object_init_meets F.bm_called.init.lookup F.bm_called.made (by decide) prog w A.in1 _ s₁ ⟨h₁.1, rfl, h₁.2⟩⟩
end
section
variable {α β γ : Type}
theorem s_rngT {vals : List Value} {Q : V → DS → Prop} (rs : VRs G g ad vs vals) (h : rngT vs fun v => Q v st) : WV G cx A ex (call (.type "range") vals) Q X g ad st := by
 cases vs with
 | nil => exact False.elim h
 | cons v vs => cases vs with
  | nil =>
   obtain ⟨n, e, q⟩ := intP_i (a := v) h
   subst e
   exact rs.one_e fun a r => s_range1 r q
  | cons w vs => cases vs with
   | nil =>
    obtain ⟨n, e, q⟩ := intP_i (a := v) h
    obtain ⟨m, e', q⟩ := intP_i (a := w) q
    subst e e'
    exact rs.two_e fun a b r r' => s_range2 r r' q
   | cons _ _ => exact False.elim h
theorem s_bytT {v : V} {a : Value} {Q : V → DS → Prop} (C : CxOk G cx) (O : AOk cx A r) (ra : VR G g ad v a) (h : bytT v fun v => Q v st) : WV G cx A ex (call (.type "bytes") [a]) Q X g ad st := by
 cases v with
 | bytes b => exact ra.bytes_e fun t => WV.ro (.bytes _) (fun s Q' E' R k => call_bytes_bytes (k _ s.toks (.bytes _ t))) h
 | lst xs => exact oE_e h fun ns e h => s_bytes C O ra rfl e h.1 (chk_le h.2).1 (chk_le h.2).2
 | _ => exact False.elim h
theorem s_lisT {v : V} {a : Value} {Q : V → DS → Prop} (C : CxOk G cx) (ra : VR G g ad v a) (h : lisT v st.mu fun v => Q v st) : WV G cx A ex (call (.type "list") [a]) Q X g ad st := by
 have gen : (oElim (asLst st.mu v) fun xs => chk (Nat.ble xs.length lstLine) (Q (.lst xs) st)) → WV G cx A ex (call (.type "list") [a]) Q X g ad st := fun h => oE_e h fun xs e h => s_list C ra (.inl e) (chk_le h).1 (chk_le h).2
 cases v with
 | tup l => exact s_list C ra (.inr rfl) (chk_le h).1 (chk_le h).2
 | _ => exact gen h
theorem s_biT {b : Bi} {vals : List Value} {Q : V → DS → Prop} (C : CxOk G cx) (O : AOk cx A r) (rs : VRs G g ad vs vals) (h : biT b vs st.mu fun v => Q v st) : WV G cx A ex (call b.val vals) Q X g ad st := by
 have both : ∀ {v w : V} {P : Int → Int → Prop} {R : Prop}, intV v w P → (∀ i j, v = .int i → w = .int j → P i j → R) → R := fun h k => by
  obtain ⟨n, e, q⟩ := intP_i h
  obtain ⟨m, e', q⟩ := intP_i q
  exact k n m e e' q
 cases b with
 | len => exact one_e rs h fun v a ra h => oE_e h fun n e h => s_len C ra e (chk_le h).1 (chk_le h).2
 | «isinstance» =>
  exact two_e rs h fun v w a b ra rb h => by
   obtain ⟨T, e, h⟩ := tyP_i h
   subst e
   exact rb.ty_e (oE_e h fun c e h => s_isi ra e h)
 | ord =>
  exact one_e rs h fun v a ra h => by
   obtain ⟨x, e, h⟩ := strP_i h
   subst e
   exact s_ord ra (Nat.eq_of_beq_eq_true (chk_elim h).1) (chk_elim h).2
 | chr =>
  exact one_e rs h fun v a ra h => by
   obtain ⟨x, e, h⟩ := intP_i h
   subst e
   have q := natLt_iff.mp (chk_elim h).1
   exact s_chr ra q.1 (Int.le_of_lt_add_one q.2) (chk_elim h).2
 | max => exact two_e rs h fun v w a b ra rb h => both h fun i j e e' q => s_max C O (e ▸ ra) (e' ▸ rb) q
 | min => exact two_e rs h fun v w a b ra rb h => both h fun i j e e' q => s_min C O (e ▸ ra) (e' ▸ rb) q
 | sum => exact one_e rs h fun v a ra h => oE_e h fun xs e h => oE_e h fun ns e' h => s_sum C O ra e e' h
 | all => exact one_e rs h fun v a ra h => oE_e h fun xs e h => oE_e h fun ns e' h => s_all C O ra e e' h
 | range => exact s_rngT rs h
 | bytes => exact one_e rs h fun v a ra h => s_bytT C O ra h
 | list => exact one_e rs h fun v a ra h => s_lisT C ra h
 | tuple => exact one_e rs h fun v a ra h => oE_e h fun xs e h => s_tuple C ra e (chk_le h).1 (chk_le h).2
 | set => exact one_e rs h fun v a ra h => oE_e h fun xs e h => oE_e h fun ns e' h => s_set C O ra e e' (chk_le h).1 (chk_le h).2
theorem name_boot {M : Model} {E : Value → Shared → Prop} {s : Shared} {x : Str} {pos : Pos} {f : Value} {Q : Value → Shared → Prop} (C : CxOk G cx) (N : EnvOk G cx ex g ad nc env) (hk : nc.sc.names.lookup x = some .globalImplicit) (hx : nsIn G.K mainGlobals x = some none) (hb : bootBuiltins x = some f) (hn : x ≠ "__name__") (hd : (x == ("__debug__" : Str)) = false)
  (R : Rel G cx ex g ad st s.heap) (hq : Q f s) : wpAny M A (eval (.Name x pos) env) Q E s := by
 have T := R.top C
 have hbl : env.builtins = builtinsNs := by cases N with | fn => exact C.blt | comp a b b2 => exact b2
 exact Name_function_global (N.kind C) (by rw [← hk, N.sc]; rfl) (loadGlobal_builtin (env := env) (by rw [N.glob C]; exact T.g) (mg_none_of (R.kin C) T.g hx) (by rw [hbl]; exact T.b) ((T.builtins x hn).trans hb) hq) hd
theorem r_ty {x : Str} {pos : Pos} {T : String} {Q : V → DS → Prop} (C : CxOk G cx) (N : EnvOk G cx ex g ad nc env) (hk : nc.sc.names.lookup x = some .globalImplicit) (hx : nsIn G.K mainGlobals x = some none) (hb : tyOf x = some T) (hq : Q (.ty T) st) : WV G cx A ex (eval (.Name x pos) env) Q X g ad st :=
 WV.ro (.ty T) (fun s Q' E' R k => let ⟨b1, b2, b3⟩ := tyOf_boot hb; name_boot C N hk hx b1 b2 b3 R (k _ s.toks (.ty T))) hq
theorem r_CallB {x : Str} {np pos : Pos} {b : Bi} {es : List Expr} {L : (List V → DS → Prop) → DS → Prop} (C : CxOk G cx) (O : AOk cx A r) (hk : nc.sc.names.lookup x = some .globalImplicit) (hx : nsIn G.K mainGlobals x = some none) (hb : biOf x = some b) (hn : noStar es = true)
  (h1 : Sl G cx A ex X nc env (spliced (backTo pos (starEach es env))) L) : Sd G cx A ex X nc env (eval (.Call (.Name x np) es [] pos) env) (fun Q st => L (fun vs st => biT b vs st.mu fun v => Q v st) st) := fun Q g ad st N h s Q' E' R hg hq he => by
 obtain ⟨b1, b2, b3⟩ := biOf_boot hb
 rw [eval_Call_fn (func := .Name x np) (by intro o n p e; cases e)]
 refine wpAny_bind (name_boot C N hk hx b1 b2 b3 R ?_)
 exact s_callWith C (b.callOk G) hn h1 N h (fun vals vs g' ad' st' S p N' rs q => s_biT C O rs q) s Q' E' R hg hq he
theorem r_CallF {x : Str} {np pos : Pos} {f : Addr} {φ : Ctr} {es : List Expr} {L : (List V → DS → Prop) → DS → Prop} (C : CxOk G cx) (O : AOk cx A (r + 1)) (hk : nc.sc.names.lookup x = some .globalImplicit) (hd : (x == ("__debug__" : Str)) = false) (hx : nsIn G.K mainGlobals x = some (some (.ref f))) (hf : keepIn G.K (.ref f) = true) (S : SoundF G r f φ) (hn : noStar es = true)
  (h1 : Sl G cx A ex X nc env (spliced (backTo pos (starEach es env))) L) : Sd G cx A ex X nc env (eval (.Call (.Name x np) es [] pos) env) (fun Q st => L (fun vs st => callV φ vs st Q X) st) := fun Q g ad st N h s Q' E' R hg hq he => by
 have T := R.top C
 rw [eval_Call_fn (func := .Name x np) (by intro o n p e; cases e)]
 refine wpAny_bind (Name_function_global (N.kind C) (by rw [← hk, N.sc]; rfl) (loadGlobal_global (env := env) (by rw [N.glob C]; exact T.g) (mg_of (R.kin C) T.g hx) ?_) hd)
 exact s_callWith C (CallOk.keep hf) hn h1 N h (fun vals vs g' ad' st' S' p N' rs q => s_callF C O S rs q) s Q' E' R hg hq he
end
end
section
noncomputable def clsV (v : V) (x : Str) (mu : List M) : Option Str := match v with
 | .inst c ns _ => if ns.contains x then none else some c
 | .cel j => (match mu[j]? with
   | some (.inst c fs) => if (fs.lookup x).isSome then none else some c
   | _ => none)
 | _ => none
section
variable {α β γ : Type}
variable {F₁ : (V → DS → Prop) → DS → Prop} {L : (List V → DS → Prop) → DS → Prop}
theorem Rel.lend {j : Nat} {m : M} (R : Rel G cx ex g ad st h) (hj : st.mu[j]? = some m) : ∃ a l, ad[j]? = some a ∧ MR G g ad m a l ∧ Rel G cx (l ++ ex) g ad { st with mu := st.mu.set j .dead } h := R.e fun oL cs fp I L MO => by
 obtain ⟨a, l, h1, h2, mr⟩ := MO.at hj
 obtain ⟨P, P'⟩ := flat_at h2 []
 refine ⟨a, l, h1, mr, oL, cs, fp.set j [], I.perm ?_, L, MO.set (List.getElem?_eq_some_iff.mp hj).1 h1 .dead⟩
 refine List.Perm.cons _ (List.Perm.append_left _ ?_)
 refine (List.Perm.append_left _ P).trans ?_
 rw [append_nil] at P'
 refine List.Perm.trans ?_ (List.Perm.append_left _ P'.symm)
 rw [← append_assoc, append_assoc l]
 exact perm_append_comm
theorem Rel.lend_e {j : Nat} {m : M} {P : Prop} (R : Rel G cx ex g ad st h) (hj : st.mu[j]? = some m) (k : ∀ a l, ad[j]? = some a → MR G g ad m a l → Rel G cx (l ++ ex) g ad { st with mu := st.mu.set j .dead } h → P) : P :=
 let ⟨a, l, h1, mr, R₂⟩ := R.lend hj
 k a l h1 mr R₂
theorem set_set {mu : List M} {j : Nat} {m m' : M} : (mu.set j m).set j m' = mu.set j m' := List.set_set ..
theorem Rel.back {j : Nat} {m : M} {a : Addr} {l : List (Addr × Obj)} (R : Rel G cx (l ++ ex) g ad st h) (hj : st.mu[j]? = some .dead) (ha : ad[j]? = some a) (hm : MR G g ad m a l) : Rel G cx ex g ad { st with mu := st.mu.set j m } h := R.e fun oL cs fp I L MO => by
 obtain ⟨a', l₀, h1, h2, mr⟩ := MO.at hj
 have e : l₀ = [] := mr.inv
 subst e
 obtain ⟨P, P'⟩ := flat_at h2 l
 rw [append_nil] at P
 refine ⟨oL, cs, fp.set j l, I.perm ?_, L, MO.set (List.getElem?_eq_some_iff.mp hj).1 ha hm⟩
 refine List.Perm.cons _ (List.Perm.append_left _ ?_)
 refine (List.Perm.append_left _ P).trans ?_
 refine List.Perm.trans ?_ (List.Perm.append_left _ P'.symm)
 rw [← append_assoc ex, append_assoc l]
 exact perm_append_comm
theorem Rel.backAt {j : Nat} {m m₀ : M} {a : Addr} {l : List (Addr × Obj)} (R : Rel G cx (l ++ ex) g ad { st with mu := st.mu.set j .dead } h) (hj : st.mu[j]? = some m₀) (ha : ad[j]? = some a) (hm : MR G g ad m a l) : Rel G cx ex g ad { st with mu := st.mu.set j m } h :=
 have q := R.back (List.getElem?_set_self (List.getElem?_eq_some_iff.mp hj).1) ha hm
 (set_set (mu := st.mu) (j := j) (m := .dead) (m' := m)) ▸ q
theorem Rel.putEx {p : Addr} {o o' : Obj} (R : Rel G cx ((p, o) :: ex) g ad st h) (hs : Heap.SameBut p h h') (ho : h'.get? p = some o') : Rel G cx ((p, o') :: ex) g ad st h' :=
 R.e fun oL cs fp I L MO => ⟨oL, cs, fp, Inv.put (pre := (cx.L, oL) :: cs) (post := ex ++ fp.flatten) I hs ho, L, MO⟩
theorem Rel.setLst {j : Nat} {xs : List V} (R : Rel G cx ex g ad st h) (hj : st.mu[j]? = some (.lst xs)) :
  ∃ a vs n, ad[j]? = some a ∧ h.get? a = some (lstO vs n) ∧ VRs G g [] xs vs ∧ ∀ h' xs' vs' n', Heap.SameBut a h h' → h'.get? a = some (lstO vs' n') → VRs G g [] xs' vs' → Rel G cx ex g ad { st with mu := st.mu.set j (.lst xs') } h' := by
 refine R.lend_e hj fun a l h1 mr R₂ => ?_
 obtain ⟨vs, n, e, rs⟩ := mr.inv
 subst e
 exact ⟨a, vs, n, h1, R₂.exAt (.head _), rs, fun h' xs' vs' n' hs e rs' => (R₂.putEx (ex := ex) (o := lstO vs n) hs e).backAt (l := [(a, lstO vs' n')]) hj h1 (.lst rs')⟩
@[elab_as_elim] theorem setLst_e {j : Nat} {xs : List V} {o : Value} {P : Value → Prop} (R : Rel G cx ex g ad st h) (ro : VR G g ad (.cel j) o) (hj : st.mu[j]? = some (.lst xs))
  (k : ∀ a vs n, h.get? a = some (lstO vs n) → VRs G g [] xs vs → (∀ h' xs' vs' n', Heap.SameBut a h h' → h'.get? a = some (lstO vs' n') → VRs G g [] xs' vs' → Rel G cx ex g ad { st with mu := st.mu.set j (.lst xs') } h') → P (.ref a)) : P o :=
 ro.cel_e fun a ha => by
  obtain ⟨a', vs, n, h1, h2, rs, kk⟩ := R.setLst hj
  have e := Option.some.inj (h1.symm.trans ha)
  subst e
  exact k a' vs n h2 rs kk
theorem s_append {j : Nat} {xs : List V} {o a : Value} {v : V} {Q : V → DS → Prop} (ro : VR G g ad (.cel j) o) (ra : VR G g ad v a) (hj : st.mu[j]? = some (.lst xs)) (hc : v.isCel = false) (hz : xs.length ≤ lstLine) (hq : Q .none { st with mu := st.mu.set j (.lst (xs ++ [v])) }) :
  WV G cx A ex (call (.builtin "list.append") [o, a]) Q X g ad st := fun s Q' E' R hg k _ => setLst_e R ro hj fun a' vs n h2 rs kk => by
 refine append_at (its := vs.toArray) (n := n) h2 (fun h' hs e => ?_) (by rw [size_toArray, ← rs.len]; exact Nat.le_trans hz (by decide))
 exact k _ g ad _ _ (Sub.refl g) (prefix_refl _) ⟨.none, .none, hq⟩ (kk h' (xs ++ [v]) (vs ++ [a]) (n + 1) hs (by rw [e]; simp [lstO]) (rs.snoc (ra.close hc))) hg rfl
theorem s_extend {j : Nat} {xs ys : List V} {o a : Value} {Q : V → DS → Prop} (ro : VR G g ad (.cel j) o) (ra : VR G g ad (.lst ys) a) (hj : st.mu[j]? = some (.lst xs)) (hz : xs.length + ys.length ≤ lstLine) (hq : Q .none { st with mu := st.mu.set j (.lst (xs ++ ys)) }) :
  WV G cx A ex (call (.builtin "list.extend") [o, a]) Q X g ad st := fun s Q' E' R hg k _ => setLst_e R ro hj fun a' vs n h2 rs kk => ra.lst_e fun b vs₂ q rs₂ => by
 obtain ⟨n₂, q⟩ := q
 have hsz : vs.toArray.size + vs₂.toArray.size ≤ lstLine := by rw [size_toArray, size_toArray, ← rs.len, ← rs₂.len]; exact hz
 have hno : ¬(!vs.toArray.isEmpty && Builtin.List.listTooLong (vs.toArray.size + vs₂.toArray.size)) = true := by
  unfold Builtin.List.listTooLong
  rw [decide_eq_false (Nat.not_lt.mpr (Nat.le_trans hsz lstLine_le)), Bool.and_false]
  exact Bool.false_ne_true
 refine call_meets PySem.F.slot_list_extend ⟨_, h2, rfl⟩ PySem.F.entry_list_extend (PySem.F.args_list_extend_2 _ _) (PySem.AutoSeq1.list_extend_list_list_0 a' vs.toArray n b vs₂.toArray n₂ hno (Nat.le_trans (Nat.le_trans (Nat.le_add_right _ _) hsz) lstLine_le) (Nat.le_succ_of_le (Nat.le_trans hsz lstLine_le))) ⟨h2, R.old q, ?_⟩
 exact k _ g ad _ _ (Sub.refl g) (prefix_refl _) ⟨.none, .none, hq⟩ (kk _ (xs ++ ys) (vs ++ vs₂) _ (Heap.SameBut.update s.heap a' (Obj.mapSeq fun x => x ++ vs₂.toArray)) ((Heap.get?_update_self (Obj.mapSeq fun x => x ++ vs₂.toArray) h2 rfl).trans (by simp [lstO, Obj.mapSeq]; rfl)) (rs.append rs₂)) hg rfl
theorem clsV_i {v : V} {x : Str} {mu : List M} {c : Str} (hc : clsV v x mu = some c) : (∃ ns vs, v = .inst c ns vs ∧ ns.contains x = false) ∨ ∃ j fs, v = .cel j ∧ mu[j]? = some (.inst c fs) ∧ fs.lookup x = none := by
 cases v with
 | inst c' ns vs =>
  replace hc : (if ns.contains x then none else some c') = some c := hc
  cases q : ns.contains x with
  | true => rw [q] at hc; exact none_some hc
  | false => rw [q] at hc; exact .inl ⟨ns, vs, by rw [Option.some.inj hc], q⟩
 | cel j =>
  refine .inr ⟨j, ?_⟩
  replace hc : (match mu[j]? with | some (.inst c fs) => if (fs.lookup x).isSome then none else some c | _ => none) = some c := hc
  generalize mu[j]? = o at hc
  cases o with
  | none => exact none_some hc
  | some m => cases m with
   | inst c' fs =>
    replace hc : (if (fs.lookup x).isSome then none else some c') = some c := hc
    cases q : fs.lookup x with
    | some _ => rw [q] at hc; exact none_some hc
    | none => rw [q] at hc; exact ⟨fs, rfl, by rw [Option.some.inj hc], q⟩
   | _ => exact none_some hc
 | _ => exact none_some hc
theorem s_method {o : Value} {v : V} {x : Str} {pl : Sem Bool} {c : Str} {f : Addr} {E : Value → Shared → Prop} {s : Shared} {Q : Value × List Value → Shared → Prop} (C : CxOk G cx) (ro : VR G g ad v o) (hc : clsV v x st.mu = some c) (hm : methodOk G.K c x = some f) (R : Rel G cx ex g ad st s.heap) (hq : Q (.ref f, [o]) s) :
  wpAny (model G.prog G.w) A (getMethod o x pl) Q E s := by
 have fin : ∀ (a Ca : Addr) (ox od : Obj) (m : Str → Option Value), o = .ref a → nsIn G.K mainGlobals c = some (some (.ref Ca)) → InstAt s.heap a ox Ca (some od) → NsO od m → m x = none → wpAny (model G.prog G.w) A (getMethod o x pl) Q E s := by
  intro a Ca ox od m e e1 I n hx
  subst e
  obtain ⟨C', e2, hf, q1, q2, _⟩ := methodOk_i hm
  have ec : C' = Ca := Value.ref.inj (Option.some.inj (Option.some.inj (e2.symm.trans e1)))
  subst ec
  refine method_fn (R.kin C) I (plainGet_of q1).1 (plainGet_of q1).2 hf (beq_iff_eq.mp q2) ?_ hq
  show (lookIn x od).map _ = _
  rw [n.look, hx]; rfl
 rcases clsV_i hc with ⟨ns, vs, e, q⟩ | ⟨j, fs, e, hj, q⟩
 ·subst e
  revert hq fin
  exact inst_e R ro fun a Ca dx od m vals e1 I n m' rr hq fin => fin a Ca _ od m rfl e1 I n (m'.2.2 x fun z => Bool.noConfusion (q.symm.trans (List.contains_iff_mem.mpr z)))
 ·subst e
  revert hq fin
  exact cel_e R ro hj fun a Ca dx od m e1 I n _ f' hq fin => fin a Ca _ od m rfl e1 I n (f' x q)
theorem keepIn_method {c x : Str} {f : Addr} {K : Frag} (h : methodOk K c x = some f) : keepIn K (.ref f) = true := let ⟨_, _, _, _, _, q⟩ := methodOk_i h; q
noncomputable def methT (mt : Str → Str → Option Addr) (Γ : Addr → Ctr) (X : Str → Prop) (x : Str) (v : V) (L : (List V → DS → Prop) → DS → Prop) (Q : V → DS → Prop) (st : DS) : Prop :=
 oElim (clsV v x st.mu) fun c => oElim (mt c x) fun f => L (fun vs st => callV (Γ f) (v :: vs) st Q X) st
theorem r_CallM {mt : Str → Str → Option Addr} {o : Expr} {x : Str} {apos pos : Pos} {es : List Expr} (hmt : ∀ c x f, mt c x = some f → methodOk G.K c x = some f) (C : CxOk G cx) (O : AOk cx A (r + 1)) (S : ∀ f, SoundF G r f (Γ f)) (hf : methForm o apos pos es = true) (h0 : Sd G cx A ex X nc env (eval o env) F₁)
  (h1 : Sl G cx A ex X nc env (spliced (backTo pos (starEach es env))) L) :
  Sd G cx A ex X nc env (eval (.Call (.Attribute o x apos) es [] pos) env) (fun Q st => F₁ (fun v st => methT mt Γ X x v L Q st) st) := fun Q g ad st N h => by
 obtain ⟨pl, e⟩ := eval_meth (name := x) (env := env) hf
 have hn := methForm_star hf
 refine W.eq e (W.bind (h0.go N h fun a v g' ad' st' S' p N' ra h => oE_e h fun c hc h => oE_e h fun f hm hL => W.at_ ?_))
 intro s Q' E' R hg hq he
 refine wpAny_bind (wpAny_holding (s_method C ra hc (hmt _ _ _ hm) R ?_))
 refine s_callWith C (CallOk.keep (keepIn_method (hmt _ _ _ hm))) hn h1 N' hL (fun vals vs g₂ ad₂ st₂ S₂ p₂ N₂ rs q => ?_) s Q' E' R hg hq he
 exact s_callF C O (S f) (.cons (ra.mono S₂ p₂) rs) q
end
end
section
section
variable {α β γ : Type}
variable {F₁ : (V → DS → Prop) → DS → Prop} {L : (List V → DS → Prop) → DS → Prop}
noncomputable def recOk (x : Str) (o : V) (mu : List M) : Prop := match o with
 | .str _ => x = "join"
 | .lst _ => x = "index"
 | .cel j => (x = "append" ∨ x = "extend") ∧ ∃ xs, mu[j]? = some (.lst xs)
 | _ => False
noncomputable def bmId (x : Str) : String := if x == "join" then "str.join" else if x == "index" then "list.index" else if x == "append" then "list.append" else "list.extend"
theorem s_getBM {o : Value} {v : V} {x : Str} {pl : Sem Bool} {E : Value → Shared → Prop} {s : Shared} {Q : Value × List Value → Shared → Prop} (ro : VR G g ad v o) (hr : recOk x v st.mu) (R : Rel G cx ex g ad st s.heap) (hq : Q (.builtin (bmId x), [o]) s) :
  wpAny (model G.prog G.w) A (getMethod o x pl) Q E s := by
 cases v with
 | str y =>
  have hr : x = "join" := hr
  subst hr
  revert hq
  exact ro.str_e fun t hq => GM.join hq
 | lst l =>
  have hr : x = "index" := hr
  subst hr
  revert hq
  exact lst_obj (P := fun o => Q (.builtin (bmId "index"), [o]) s → wpAny (model G.prog G.w) A (getMethod o "index" pl) Q E s) R ro fun r o ho hc hd hq => getMethod_builtin ⟨_, ho, hc⟩ F.plainAttrs_list F.slot_list_index F.type_list_index (fun a e => Value.ref.inj e ▸ ⟨_, ho, hd⟩) hq
 | cel j =>
  obtain ⟨hx, xs, hj⟩ := hr
  revert hq
  refine ro.cel_e fun a ha hq => ?_
  obtain ⟨vs, n, ho, _⟩ := R.listO hj ha
  rcases hx with e | e
  ·subst e; exact getMethod_builtin ⟨_, ho, rfl⟩ F.plainAttrs_list F.slot_list_append F.type_list_append (fun a e => Value.ref.inj e ▸ ⟨_, ho, rfl⟩) hq
  ·subst e; exact getMethod_builtin ⟨_, ho, rfl⟩ F.plainAttrs_list F.slot_list_extend F.type_list_extend (fun a e => Value.ref.inj e ▸ ⟨_, ho, rfl⟩) hq
 | _ => exact False.elim hr
theorem findIdx_spec {ys : List Str} {x : Str} {j : Nat} (h : ys.findIdx? (· == x) = some j) : ∃ hj : j < ys.length, (ys[j] == x) = true ∧ ∀ m (hm : m < ys.length), m < j → (ys[m] == x) = false := by
 obtain ⟨hj, h1, h2⟩ := List.findIdx?_eq_some_iff_getElem.mp h
 exact ⟨hj, h1, fun m hm hmj => by simpa using h2 m hmj⟩
theorem idx_list {ys : List Str} {y : Str} {j : Nat} {vs : List Value} {n : Nat} {b : Addr} {t : Tok} {s : Shared} {Q' E' : Value → Shared → Prop} (hs : StrsAre vs ys) (ho : s.heap.get? b = some { cls := .type "list", dict := .none, data := .seq vs.toArray n, slots := #[] }) (hz : ys.length ≤ lstLine) (hj : ys.findIdx? (· == y) = some j) (k' : ∀ t' tk, Q' (.int j t') { s with toks := tk }) :
  wpAny (model G.prog G.w) A (call (.builtin "list.index") [.ref b, .str y t]) Q' E' s := by
 obtain ⟨hj', h1, h2⟩ := findIdx_spec hj
 have hsz : vs.toArray.size = ys.length := size_toArray.trans hs.len_eq
 have at_ : ∀ m (hm : m < vs.toArray.size), ∃ u, vs.toArray[m] = .str (ys[m]'(hsz ▸ hm)) u := fun m hm => by
  obtain ⟨u, hu⟩ := hs.get m (ys[m]'(hsz ▸ hm)) (List.getElem?_eq_getElem _)
  exact ⟨u, Option.some.inj ((Array.getElem?_eq_getElem hm).symm.trans ((List.getElem?_toArray ..).trans hu))⟩
 have hv : ∀ m (hm : m < vs.toArray.size), (match vs.toArray[m] with | .str z _ => z == y | _ => false) = (ys[m]'(hsz ▸ hm) == y) := fun m hm => by
  obtain ⟨u, e⟩ := at_ m hm
  rw [e]
 refine call_meets F.slot_list_index ⟨_, ho, rfl⟩ F.entry_list_index (F.args_list_index_2 _ _) (PySem.SeqAt.list_indexAt b vs.toArray n .none #[] (.str y t) (fun v => match v with | .str z _ => z == y | _ => false) j (hsz ▸ hj') (Int.lt_of_lt_of_le (Int.ofNat_lt.mpr hj') (Int.le_trans (Int.ofNat_le.mpr hz) (by decide))) ?_ ?_) ⟨ho, fun v hv' => ?_, k' _ _⟩
 ·rw [hv j (hsz ▸ hj')]; exact h1
 ·intro m hm hmj
  rw [hv m hm]; exact h2 m (hsz ▸ hm) hmj
 ·obtain ⟨m, hm, rfl⟩ := Array.getElem_of_mem hv'
  obtain ⟨u, e⟩ := at_ m hm
  rw [e]
  exact PySem.SeqAt.EqAt.str_str _ _ _ _
theorem s_index {l : List V} {ys : List Str} {y : Str} {j : Nat} {o a : Value} {Q : V → DS → Prop} (ro : VR G g ad (.lst l) o) (ra : VR G g ad (.str y) a) (hl : strsOf l = some ys) (hz : ys.length ≤ lstLine) (hj : ys.findIdx? (· == y) = some j) (hq : Q (.int j) st) :
  WV G cx A ex (call (.builtin "list.index") [o, a]) Q X g ad st :=
 ro.lst_e fun b vs q rs => ra.str_e fun t => Exists.elim q fun n q => WV.ro (.int j) (fun s Q' E' R k => idx_list (strsOf_are rs hl) (R.old q) hz hj fun t' tk => k _ _ (.int _ _)) hq
theorem s_join {sep : Str} {v : V} {xs : List V} {ys : List Str} {o a : Value} {Q : V → DS → Prop} (ro : VR G g ad (.str sep) o) (ra : VR G g ad v a) (h : asLst st.mu v = some xs) (hs : strsOf xs = some ys) (hz : (ys.map (·.length)).sum + ys.length * sep.length ≤ 16777216) (hq : Q (.str (Txt.join sep ys)) st) :
  WV G cx A ex (call (.builtin "str.join") [o, a]) Q X g ad st :=
 ro.str_e fun t => WV.ro (.str (Txt.join sep ys)) (fun s Q' E' R k => R.list_e ra h fun l vs hl rs => join_list hl (strsOf_are rs hs) hz fun t' tk => k _ _ (.str _ _)) hq
noncomputable def lstM (m : M) (P : List V → Prop) : Prop := match m with
 | .lst xs => P xs
 | _ => False
theorem lstM_i {m : M} {P : List V → Prop} (h : lstM m P) : ∃ xs, m = .lst xs ∧ P xs := by cases m <;> first | exact ⟨_, rfl, h⟩ | exact False.elim h
noncomputable def bmT (x : Str) (o : V) (vs : List V) (st : DS) (Q : V → DS → Prop) : Prop := oneP vs fun v => match o with
 | .str sep => chk (x == ("join" : Str)) (oElim (asLst st.mu v) fun xs => oElim (strsOf xs) fun ys => chk (Nat.ble ((ys.map (·.length)).sum + ys.length * sep.length) 16777216) (Q (.str (Txt.join sep ys)) st))
 | .lst l => strP v fun y => chk (x == ("index" : Str)) (oElim (strsOf l) fun ys => oElim (ys.findIdx? (· == y)) fun j => chk (Nat.ble ys.length lstLine) (Q (.int j) st))
 | .cel j => oElim st.mu[j]? fun m => lstM m fun xs => brS (x == ("extend" : Str)) (lstP v fun ys => chk (Nat.ble (xs.length + ys.length) lstLine) (Q .none { st with mu := st.mu.set j (.lst (xs ++ ys)) }))
   (chk (x == ("append" : Str)) (chk (!v.isCel) (chk (Nat.ble xs.length lstLine) (Q .none { st with mu := st.mu.set j (.lst (xs ++ [v])) }))))
 | _ => False
theorem s_bmT {x : Str} {o : V} {ov : Value} {vals : List Value} {Q : V → DS → Prop} (ro : VR G g ad o ov) (rs : VRs G g ad vs vals) (h : bmT x o vs st Q) : WV G cx A ex (call (.builtin (bmId x)) ([ov] ++ vals)) Q X g ad st := by
 refine one_e rs h fun v a ra h => ?_
 cases o with
 | str sep =>
  exact chk_e h fun e h => oE_e h fun xs e1 h => oE_e h fun ys e2 hq => by
   have e := eq_of_beq e
   subst e
   exact s_join ro ra e1 e2 (chk_le hq).1 (chk_le hq).2
 | lst l =>
  obtain ⟨y, e, h⟩ := strP_i h
  subst e
  exact chk_e h fun e h => oE_e h fun ys e1 h => oE_e h fun j e2 hq => by
   have e := eq_of_beq e
   subst e
   exact s_index ro ra e1 (chk_le hq).1 e2 (chk_le hq).2
 | cel j =>
  refine oE_e h fun m hj h => ?_
  obtain ⟨xs, e, h⟩ := lstM_i h
  subst e
  cases q : x == ("extend" : Str) with
  | true =>
   obtain ⟨ys, e', hq⟩ := lstP_i (brS_t h q)
   have e := eq_of_beq q
   subst e e'
   exact s_extend ro ra hj (chk_le hq).1 (chk_le hq).2
  | false =>
   exact chk_e (brS_f h q) fun e hq => by
    have e := eq_of_beq e
    subst e
    exact s_append ro ra hj (chk_not hq).1 (chk_le (chk_not hq).2).1 (chk_le (chk_not hq).2).2
 | _ => exact False.elim h
theorem r_CallBM {o : Expr} {x : Str} {apos pos : Pos} {es : List Expr} (C : CxOk G cx) (hf : methForm o apos pos es = true) (h0 : Sd G cx A ex X nc env (eval o env) F₁) (h1 : Sl G cx A ex X nc env (spliced (backTo pos (starEach es env))) L) :
  Sd G cx A ex X nc env (eval (.Call (.Attribute o x apos) es [] pos) env) (fun Q st => F₁ (fun v st => recOk x v st.mu ∧ L (fun vs st => bmT x v vs st Q) st) st) := fun Q g ad st N h => by
 obtain ⟨pl, e⟩ := eval_meth (name := x) (env := env) hf
 have hn := methForm_star hf
 refine W.eq e (W.bind (h0.go N h fun a v g' ad' st' S' p N' ra z => W.at_ ?_))
 intro s Q' E' R hg hq he
 refine wpAny_bind (wpAny_holding (s_getBM ra z.1 R ?_))
 exact s_callWith C (CallOk.builtin _) hn h1 N' z.2 (fun vals vs g₂ ad₂ st₂ S₂ p₂ N₂ rs q => s_bmT (ra.mono S₂ p₂) rs q) s Q' E' R hg hq he
end
end
section
noncomputable def Ss (G : Gd) (cx : Cx) (A : Around) (ex : List (Addr × Obj)) (t : Sem Flow) (F : (DS → Prop) → (V → Option DS → Prop) → (Str → Prop) → DS → Prop) : Prop :=
 ∀ N R X g ad st, F N R X st → WS G cx A ex t N R X g ad st
section
variable {α β γ : Type} {M : Model}
theorem ws_nil (h : N st) : WS G cx A ex (execs [] cx.envF) N Rt X g ad st := fun s Q' E' R hg kn kr kl ke => wpAny_execs_nil (kn g ad st s (Sub.refl g) (prefix_refl _) h R hg rfl)
theorem ws_cons {t : Stmt} {ts : List Stmt} {P : DS → Prop} (hsub : Sub cx.g₀ g) (h1 : WS G cx A ex (exec t cx.envF) P Rt X g ad st) (h2 : ∀ g' ad' st', Sub g g' → P st' → WS G cx A ex (execs ts cx.envF) N Rt X g' ad' st') : WS G cx A ex (execs (t :: ts) cx.envF) N Rt X g ad st :=
 fun s Q' E' R hg kn kr kl ke => wpAny_execs_cons (h1 s _ _ R hg
  (fun g' ad' st' s' S p q R' hg' ho => h2 g' ad' st' S q s' Q' E' R' hg' (fun g₂ ad₂ st₂ s₂ S₂ p₂ q R₂ hg₂ ho₂ => kn g₂ ad₂ st₂ s₂ (S.trans S₂) (p.trans p₂) q R₂ hg₂ (ho₂.trans ho))
   (fun v val g₂ ad₂ st₂ s₂ S₂ p₂ rv q R₂ hg₂ ho₂ => kr v val g₂ ad₂ st₂ s₂ (S.trans S₂) (p.trans p₂) rv q R₂ hg₂ (ho₂.trans ho))
   (fun v val g₂ s₂ S₂ rv q I hg₂ ho₂ => kl v val g₂ s₂ S₂ rv q I hg₂ (ho₂.trans ho)) fun c e s₂ x y hg₂ ho₂ => ke c e s₂ x y hg₂ (ho₂.trans ho))
  (fun v val g' ad' st' s' S p rv q R' hg' ho => kr v val g' ad' st' s' S p rv q R' hg' ho)
  (fun v val g' s' S rv q I hg' ho => kl v val g' s' S rv q I hg' ho) ke)
theorem ws_ev {t : Sem Flow} {e : Sem Value} {f : Value → Sem Flow} {P : V → DS → Prop} (rule : ∀ (Q : Flow → Shared → Prop) (E : Value → Shared → Prop) (s : Shared), wpAny (model G.prog G.w) A e (fun a s₁ => wpAny (model G.prog G.w) A (f a) Q E s₁) E s → wpAny (model G.prog G.w) A t Q E s)
  (h1 : WV G cx A ex e P X g ad st) (h2 : ∀ a v g' ad' st', Sub g g' → VR G g' ad' v a → P v st' → WS G cx A ex (f a) N Rt X g' ad' st') : WS G cx A ex t N Rt X g ad st :=
 fun s Q' E' R hg kn kr kl ke => rule Q' E' s (h1 s _ _ R hg (fun a g' ad' st' s' S p ⟨v, rv, q⟩ R' hg' ho => h2 a v g' ad' st' S rv q s' Q' E' R' hg'
   (fun g₂ ad₂ st₂ s₂ S₂ p₂ q R₂ hg₂ ho₂ => kn g₂ ad₂ st₂ s₂ (S.trans S₂) (p.trans p₂) q R₂ hg₂ (ho₂.trans ho))
   (fun v val g₂ ad₂ st₂ s₂ S₂ p₂ rv q R₂ hg₂ ho₂ => kr v val g₂ ad₂ st₂ s₂ (S.trans S₂) (p.trans p₂) rv q R₂ hg₂ (ho₂.trans ho))
   (fun v val g₂ s₂ S₂ rv q I hg₂ ho₂ => kl v val g₂ s₂ S₂ rv q I hg₂ (ho₂.trans ho)) fun c e s₂ x y hg₂ ho₂ => ke c e s₂ x y hg₂ (ho₂.trans ho)) ke)
noncomputable def isComp : Expr → Bool
 | .ListComp .. | .SetComp .. | .DictComp .. => true
 | _ => false
theorem swaps_plain {e : Expr} (h : isComp e = false) (t : Option Expr) (l : Nat) (env : Env) : swapsWith e t l env = pure false := by
 cases e <;> first | rfl | cases h
theorem ws_Expr {e : Expr} {pos : Pos} {F : (V → DS → Prop) → DS → Prop} (C : CxOk G cx) (hs : isComp e = false) (h1 : Sd G cx A ex X ⟨cx.envF.scope, none⟩ cx.envF (eval e cx.envF) F) (h : F (fun v st => noneK v (N st)) st) :
  WS G cx A ex (exec (.Expr e pos) cx.envF) N Rt X g ad st := by
 have hi : interactive cx.envF = false := by unfold interactive; rw [C.kind]; rfl
 refine ws_ev (f := fun v => dropValue e pos v) (fun Q E s z => ?_) (h1 _ g ad st .fn h) fun a v g' ad' st' S rv z => ?_
 ·rw [exec_Expr cx.envF e pos hi (swaps_plain hs _ _ _)]
  exact wpAny_bind (wpAny_standAt (wpAny_bind z))
 ·obtain ⟨hv, q⟩ := noneK_elim z
  subst hv
  have ea : a = .none := rv.inv
  subst ea
  rw [dropValue_plain (by intro a; simp)]
  exact fun s Q' E' R hg kn _ _ _ => wpAny_pure (kn g' ad' st' s (Sub.refl _) (prefix_refl _) q R hg rfl)
theorem ws_If {test : Expr} {body orelse : List Stmt} {pos : Pos} {B : (Bool → DS → Prop) → DS → Prop} {P : Bool → DS → Prop} (h1 : Sb G cx A ex X ⟨cx.envF.scope, none⟩ cx.envF (isTrue test cx.envF (eval test cx.envF)) B) (h : B P st)
  (h2 : ∀ g' ad' st', Sub g g' → P true st' → WS G cx A ex (execs body cx.envF) N Rt X g' ad' st') (h3 : ∀ g' ad' st', Sub g g' → P false st' → WS G cx A ex (execs orelse cx.envF) N Rt X g' ad' st') : WS G cx A ex (exec (.If test body orelse pos) cx.envF) N Rt X g ad st :=
 fun s Q' E' R hg kn kr kl ke => wpAny_If (h1 P g ad st .fn h s _ _ R hg (fun b g' ad' st' s' S p q R' hg' ho => by
  have go : ∀ ts, WS G cx A ex (execs ts cx.envF) N Rt X g' ad' st' → wpAny (model G.prog G.w) A (execs ts cx.envF) Q' E' s' := fun ts w => w s' Q' E' R' hg'
   (fun g₂ ad₂ st₂ s₂ S₂ p₂ q R₂ hg₂ ho₂ => kn g₂ ad₂ st₂ s₂ (S.trans S₂) (p.trans p₂) q R₂ hg₂ (ho₂.trans ho))
   (fun v val g₂ ad₂ st₂ s₂ S₂ p₂ rv q R₂ hg₂ ho₂ => kr v val g₂ ad₂ st₂ s₂ (S.trans S₂) (p.trans p₂) rv q R₂ hg₂ (ho₂.trans ho))
   (fun v val g₂ s₂ S₂ rv q I hg₂ ho₂ => kl v val g₂ s₂ S₂ rv q I hg₂ (ho₂.trans ho)) fun c e s₂ x y hg₂ ho₂ => ke c e s₂ x y hg₂ (ho₂.trans ho)
  cases b with
  | true => exact go _ (h2 g' ad' st' S q)
  | false => exact go _ (h3 g' ad' st' S q)) ke)
theorem Rel.freezeMu {j : Nat} {xs : List V} {a : Addr} (C : CxOk G cx) (R : Rel G cx ex g ad st h) (hj : st.mu[j]? = some (.lst xs)) (ha : ad[j]? = some a) :
  ∃ g', Sub g g' ∧ VR G g' [] (.lst xs) (.ref a) ∧ Rel G cx ex g' ad { st with mu := st.mu.set j .dead } h := by
 refine R.lend_e hj fun a' l h1 mr R₂ => ?_
 obtain ⟨vs, n, e, rs⟩ := mr.inv
 have e1 := Option.some.inj (h1.symm.trans ha)
 subst e e1
 have q := R₂.rest (ex := ex)
 exact ⟨_, q.1, .lst ⟨n, upd_self _ _ _⟩ (rs.mono q.1 (prefix_refl _)), q.2⟩
end
end
section
noncomputable def tgtNames : Expr → List Str
 | .Name x _ => [x]
 | .Tuple [.Name a _, .Name b _] _ _ => [a, b]
 | _ => []
noncomputable def isSet : Expr → Bool
 | .Set .. => true
 | _ => false
theorem folded_plain {iter : Expr} (h : isSet iter = false) (env : Env) (x : Value) : foldedSetIterable iter env x = pure x := by
 cases iter <;> first | rfl | cases h
theorem enumF_names (a b : Str) : ∀ (k : Nat) (xs : List V), ∀ c ∈ enumF a b k xs, c.map (·.1) = [a, b]
 | _, [], _, h => by cases h
 | k, x :: xs, c, h => by
  unfold enumF at h
  rcases mem_cons.mp h with rfl | h
  ·rfl
  ·exact enumF_names a b (k + 1) xs c h
noncomputable def Sit (G : Gd) (cx : Cx) (A : Around) (ex : List (Addr × Obj)) (X : Str → Prop) (target iter : Expr) (F : (List (List (Str × V)) → DS → Prop) → DS → Prop) : Prop :=
 ∀ (B : List (List (Str × V)) → DS → Prop) (g : PH) (ad : List Addr) (st : DS) (s : Shared) (Q' E' : Value → Shared → Prop), F B st → Rel G cx ex g ad st s.heap → s.gens = #[] →
  (∀ bs it g' ad' st' s', Sub g g' → ad <+: ad' → B bs st' → (∀ b ∈ bs, b.map (·.1) = tgtNames target) → Fed G cx A ex target bs g' ad' st' it s'.heap → s'.gens = #[] → s'.os = s.os → Q' it s') →
  (∀ c e s', X c → ExcIn G cx ex c e s'.heap → s'.gens = #[] → s'.os = s.os → E' (.ref e) s') →
  wpAny (model G.prog G.w) A (eval iter cx.envF) (fun x s₁ => wpAny (model G.prog G.w) A (pyIter x) Q' E' s₁) E' s
section
variable {α β γ : Type} {M : Model}
variable {F₁ : (V → DS → Prop) → DS → Prop}
noncomputable def rngB (v : V) : Bool := match v with
 | .rng a b => absLt a (2 ^ 62) && absLt b (2 ^ 62)
 | _ => true
theorem rngB_ok {v : V} (h : rngB v = true) : rngOk v := by
 cases v with
 | rng a b =>
  have q := Bool.and_eq_true_iff.mp h
  exact ⟨(absLt_iff.mp q.1).1, (absLt_iff.mp q.1).2, (absLt_iff.mp q.2).1, (absLt_iff.mp q.2).2⟩
 | _ => trivial
noncomputable def enumT (v : V) (K : List V → Prop) : Prop := match v with
 | .lst xs => K xs
 | .bytes y => K (y.toList.map fun c => .int (c.toNat : Int))
 | _ => False
theorem enumT_i {v : V} {K : List V → Prop} (h : enumT v K) : ∃ xs, elemsOf v = some xs ∧ ((∃ l, v = .lst l) ∨ ∃ y, v = .bytes y) ∧ K xs := by
 cases v with
 | lst xs => exact ⟨xs, rfl, .inl ⟨xs, rfl⟩, h⟩
 | bytes y => exact ⟨_, rfl, .inr ⟨y, rfl⟩, h⟩
 | _ => exact False.elim h
theorem sit_name {x : Str} {px : Pos} {iter : Expr} (C : CxOk G cx) (O : AOk cx A r) (h1 : Sd G cx A ex X ⟨cx.envF.scope, none⟩ cx.envF (eval iter cx.envF) F₁) :
  Sit G cx A ex X (.Name x px) iter (fun B st => F₁ (fun v st => oElim (elemsOf v) fun xs => chk (rngB v) (B (xs.map fun y => [(x, y)]) st)) st) :=
 fun B g ad st s Q' E' hF R hg hq he => h1 _ g ad st .fn hF s _ _ R hg (fun a g' ad' st' s' S p z R' hg' ho => Exists.elim z fun v z => oE_e z.2 fun xs e1 q => fed_name C O z.1 e1 (rngB_ok (chk_elim q).1) R' fun it h' tk fd =>
  hq _ it g' ad' st' _ S p (chk_elim q).2 (fun b hb => by obtain ⟨y, _, e⟩ := mem_map.mp hb; exact e ▸ rfl) fd hg' ho) he
theorem enum_boot : bootBuiltins "enumerate" = some (.type "enumerate") := by decide +kernel
theorem sit_enum {a b : Str} {pa pb tp np pos : Pos} {kk : Nat} {e : Expr} (C : CxOk G cx) (O : AOk cx A r) (hab : a ≠ b) (hk : cx.envF.scope.names.lookup ("enumerate" : Str) = some .globalImplicit) (hx : nsIn G.K mainGlobals "enumerate" = some none) (hn : noStar [e] = true) (h1 : Sd G cx A ex X ⟨cx.envF.scope, none⟩ cx.envF (eval e cx.envF) F₁) :
  Sit G cx A ex X (.Tuple [.Name a pa, .Name b pb] kk tp) (.Call (.Name "enumerate" np) [e] [] pos) (fun B st => F₁ (fun v st => enumT v fun xs => B (enumF a b 0 xs) st) st) :=
 fun B g ad st s Q' E' hF R hg hq he => by
  rw [eval_Call_fn (func := .Name "enumerate" np) (by intro o n p e; cases e)]
  refine wpAny_bind (name_boot C (.fn (cx := cx) (g := g) (ad := ad)) hk hx enum_boot (by decide) (by decide) R ?_)
  refine callWith_of (P := G.K.In) (by rw [noStar_any hn]; rfl) (fun h X => CallOk.type "enumerate" (model G.prog G.w) h X) (evalArgs_es hn ?_)
  obtain ⟨q, _⟩ := noStar_head (env := cx.envF) hn
  refine wpAny_items_cons ?_ q
  refine h1 _ g ad st .fn hF s _ _ R hg (fun x g' ad' st' s' S p z R' hg' ho => Exists.elim z fun v z => ?_) he
  have rv := z.1
  obtain ⟨xs, e1, e2, e3⟩ := enumT_i z.2
  refine wpAny_items_nil ⟨R'.kin C, ?_⟩
  exact fed_enum C O hab rv e1 e2 R' fun it h' tk fd => hq _ it g' ad' st' _ S p e3 (fun b hb => enumF_names _ _ _ _ b hb) fd hg' ho
variable {FE : List (Str × V) → (V → DS → Prop) → DS → Prop} {Fi : (List (List (Str × V)) → DS → Prop) → DS → Prop}
structure CompSound (G : Gd) (cx : Cx) (A : Around) (X : Str → Prop) (scope : Scope) (target elt : Expr) (FE : List (Str × V) → (V → DS → Prop) → DS → Prop) : Prop where
 ok : compOk scope cx.envF.scope = true
 names : ∀ x ∈ tgtNames target, scope.names.lookup x = some .local
 elt : ∀ b, b.map (·.1) = tgtNames target → ∀ cenv ex₁ g' ad' st' Q, EnvOk G cx ex₁ g' ad' ⟨relabelV scope cx.envF.scope, some b⟩ cenv → FE b Q st' → WV G cx A ex₁ (eval elt cenv) Q X g' ad' st'
theorem comp_clo (C : CxOk G cx) {scope : Scope} (hok : compOk scope cx.envF.scope = true) : closureFor scope cx.envF = pure (clo cx.envF scope.names []) ∧ scope.kind = .function ∧ ∀ x ∈ scope.names, x.2 = .local → scope.names.lookup x.1 = some .local := by
 unfold compOk at hok
 simp only [Bool.and_eq_true, all_eq_true, beq_iff_eq] at hok
 obtain ⟨⟨hk, hk2⟩, hall⟩ := hok
 refine ⟨closureFor_clo fun p hp hf => ?_, hk, fun p hp hl => ?_⟩
 ·have := (hall p hp).2
  rw [hf] at this
  have this : cx.envF.scope.names.lookup p.1 = some .cell := by simpa using this
  exact C.cellNames p.1 this
 ·have := (hall p hp).1.2
  rw [hl] at this
  simpa using this
theorem r_ListComp {target iter elt : Expr} {scope : Scope} {pos : Pos} (C : CxOk G cx) (O : AOk cx A r) (hs : isSet iter = false) (S : CompSound G cx A X scope target elt FE) (h1 : Sit G cx A ex X target iter Fi) :
  Sd G cx A ex X ⟨cx.envF.scope, none⟩ cx.envF (eval (.ListComp elt [⟨target, iter, [], 0⟩] scope pos) cx.envF) (fun Q st => Fi (fun bs st => fullT FE bs Q st) st) := fun Q g ad st N h s Q' E' R hg hq he => by
 obtain ⟨c1, c2, c3⟩ := comp_clo C S.ok
 rw [eval_ListComp]
 refine wpAny_comprehension_free (use := none) rfl (folded_plain hs _) c1 c2 c3 (h1 _ g ad st s _ _ h R hg (fun bs it g' ad' st' s' S' p hB hbn hfed hg' ho' => ?_) he)
 exact comp_block (use := none) C O S.ok (chk_le hB).1 (fun b hb x hx => S.names x (hbn b hb ▸ hx)) (fun b hb => S.elt b (hbn b hb)) (chk_le hB).2.h hfed hg' (fun v g₂ ad₂ st₂ val s₂ S₂ p₂ rv q R₂ hg₂ ho₂ =>
  hq val g₂ ad₂ st₂ s₂ (S'.trans S₂) (p.trans p₂) ⟨v, rv.lift, q⟩ R₂ hg₂ (ho₂.trans ho')) fun c e s' x y hg₂ ho₂ => he c e s' x y hg₂ (ho₂.trans ho')
end
end
section
section
variable {α β γ : Type}
variable {F₁ : (V → DS → Prop) → DS → Prop} {FE : List (Str × V) → (V → DS → Prop) → DS → Prop} {Fi : (List (List (Str × V)) → DS → Prop) → DS → Prop}
noncomputable def storable (sc : Scope) (x : Str) : Bool := sc.names.lookup x == some .local || sc.names.lookup x == some .cell
theorem storable_or (h : storable cx.envF.scope x = true) : cx.envF.kindOf x = some .local ∨ cx.envF.kindOf x = some .cell := by
 unfold storable at h
 simp only [Bool.or_eq_true, beq_iff_eq] at h
 exact h
theorem ws_AssignName {x : Str} {px pos : Pos} {e : Expr} (C : CxOk G cx) (hs : isComp e = false) (hx : storable cx.envF.scope x = true) (h1 : Sd G cx A ex X ⟨cx.envF.scope, none⟩ cx.envF (eval e cx.envF) F₁) (h : F₁ (fun v st => N (st.set x v)) st) :
  WS G cx A ex (exec (.Assign [.Name x px] e pos) cx.envF) N Rt X g ad st := fun s Q' E' R hg kn kr kl ke =>
 wpAny_Assign_Name (h1 _ g ad st .fn h s _ _ R hg (fun a g' ad' st' s' S p ⟨v, rv, q⟩ R' hg' ho =>
  s_store C rv (storable_or hx) R' fun h' tk R₂ _ => kn g' ad' _ _ S p q R₂ hg' ho) ke) (swaps_plain hs _ _ _)
theorem ws_AssignComp {x : Str} {px pos cpos : Pos} {target iter elt : Expr} {scope : Scope} (C : CxOk G cx) (O : AOk cx A r) (hx : storable cx.envF.scope x = true) (hs : isSet iter = false) (CS : CompSound G cx A X scope target elt FE) (h1 : Sit G cx A ex X target iter Fi)
  (h : Fi (fun bs st => fullT FE bs (fun v st => N (st.set x v)) st) st) : WS G cx A ex (exec (.Assign [.Name x px] (.ListComp elt [⟨target, iter, [], 0⟩] scope cpos) pos) cx.envF) N Rt X g ad st := by
 cases hb : (cx.envF.blockKind == .function && cx.envF.kindOf x == some .local && px.line == cpos.line && !(scope.names.any fun (n, k) => n == x && (k == .local || k == .cell))) with
 | false =>
  intro s Q' E' R hg kn kr kl ke
  refine wpAny_Assign_Name (r_ListComp C O hs CS h1 (fun v st => N (st.set x v)) g ad st .fn h s _ _ R hg (fun a g' ad' st' s' S p ⟨v, rv, q⟩ R' hg' ho =>
   s_store C rv (storable_or hx) R' fun h' tk R₂ _ => kn g' ad' _ _ S p q R₂ hg' ho) ke) ?_
  show (pure _ : Sem Bool) = pure false
  exact congrArg pure hb
 | true =>
  intro s Q' E' R hg kn kr kl ke
  have hsw : swapsWith (.ListComp elt [⟨target, iter, [], 0⟩] scope cpos) (some (.Name x px)) pos.line cx.envF = pure true := by
   show (pure _ : Sem Bool) = pure true
   exact congrArg pure hb
  have hxl : cx.envF.kindOf x = some .local := by
   simp only [Bool.and_eq_true, beq_iff_eq] at hb
   exact hb.1.1.2
  rw [exec_Assign_Name_used _ _ _ _ hsw]
  refine wpAny_bind (wpAny_standAt (wpAny_bind ?_))
  show wpAny _ A (do let _ ← comprehension (.ListComp elt [⟨target, iter, [], 0⟩] scope cpos) scope cx.envF _ (newList []) false (eval iter cx.envF) (some (assign (.Name x px) cx.envF))) _ _ s
  obtain ⟨c1, c2, c3⟩ := comp_clo C CS.ok
  refine wpAny_bind (wpAny_mono (wpAny_comprehension_free (use := some (assign (.Name x px) cx.envF)) (Q := fun _ s' => Q' .next s') rfl (folded_plain hs _) c1 c2 c3 (h1 _ g ad st s _ _ h R hg (fun bs it g' ad' st' s' S' p hB hbn hfed hg' ho' => ?_) ke)) (fun _ s' hq => wpAny_pure (wpAny_pure hq)) fun _ _ e => e)
  refine comp_block (use := some (assign (.Name x px) cx.envF)) (Q := fun v st => N (st.set x v)) C O CS.ok (chk_le hB).1 (fun b hb x hx => CS.names x (hbn b hb ▸ hx)) (fun b hb => CS.elt b (hbn b hb)) (chk_le hB).2.h hfed hg' (fun v g₂ ad₂ st₂ val Ca oC s₂ S₂ p₂ hm rv q R₂ hg₂ ho₂ => ?_) fun c e s' x y hg₂ ho₂ => ke c e s' x y hg₂ (ho₂.trans ho')
  obtain ⟨m, hm⟩ := hm
  refine wpAny_assign_Name (s_store C rv.lift (.inl hxl) R₂ fun h₃ tk R₃ _ => ?_)
  refine ⟨m, hm.ns (R₃.exAt (p := (Ca, oC)) (.head _)), fun h₄ hs₄ => ?_⟩
  exact kn g₂ ad₂ _ _ (S'.trans S₂) (p.trans p₂) q (Rel.swap (own := [(Ca, oC)]) (own' := []) (ex := ex) C R₃ (nil_sublist _) (fun b o hb e => hs₄.extBut b o (fun z => hb (by simp [z])) e) (fun p hp => by cases hp)) hg₂ (ho₂.trans ho')
theorem Rel.newMu {o : Obj} {m : M} (R : Rel G cx ex g ad st h) (hf : o.isFreed = false) (hm : MR G g [] m h.objs.size [(h.objs.size, o)]) : Rel G cx ex g (ad ++ [h.objs.size]) { st with mu := st.mu ++ [m] } (h.push o) := by
 obtain ⟨oL, cs, fp, I, L, MO⟩ := R
 have pre : ad <+: ad ++ [h.objs.size] := ⟨_, rfl⟩
 refine ⟨oL, cs, fp ++ [[(h.objs.size, o)]], (I.push hf).perm ?_, L.mono (Sub.refl g) pre, ?_⟩
 ·rw [List.flatten_append]
  refine (List.Perm.swap _ _ _).trans (List.Perm.cons _ ?_)
  show ((h.objs.size, o) :: (cs ++ (ex ++ fp.flatten))).Perm (cs ++ (ex ++ (fp.flatten ++ [(h.objs.size, o)])))
  rw [← append_assoc, ← append_assoc, ← append_assoc]
  exact (List.perm_append_singleton _ _).symm
 ·refine ⟨by simp [MO.len], by simp [MO.lad], fun j m' a l e1 e2 e3 => ?_⟩
  by_cases q : j < st.mu.length
  ·rw [List.getElem?_append_left q] at e1
   rw [List.getElem?_append_left (by rw [MO.lad]; exact q)] at e2
   rw [List.getElem?_append_left (by rw [MO.len]; exact q)] at e3
   exact (MO.rel j m' a l e1 e2 e3).any
  ·have q1 : j = st.mu.length := by
    have := (List.getElem?_eq_some_iff.mp e1).1
    rw [length_append] at this
    simp at this
    omega
   subst q1
   rw [List.getElem?_append_right (Nat.le_refl _), Nat.sub_self] at e1
   rw [List.getElem?_append_right (by rw [MO.lad]; exact Nat.le_refl _), MO.lad, Nat.sub_self] at e2
   rw [List.getElem?_append_right (by rw [MO.len]; exact Nat.le_refl _), MO.len, Nat.sub_self] at e3
   cases e1; cases e2; cases e3
   exact hm.any
theorem r_ListNew {es : List Expr} {pos : Pos} {env : Env} {nc : NC} {L : (List V → DS → Prop) → DS → Prop} (h1 : Sl G cx A ex X nc env (spliced (backTo pos (starEach es env))) L) :
  Sd G cx A ex X nc env (eval (.List es pos) env) (fun Q st => L (fun vs st => dis vs (Q (.cel st.mu.length) { st with mu := st.mu ++ [.lst vs] })) st) := fun Q g ad st N h s Q' E' R hg hq he =>
 wpAny_List (h1 _ _ _ _ N h s _ _ R hg (fun vals g' ad' st' s' S p z R' hg' ho => Exists.elim z fun vs z => ⟨z.1.len ▸ Nat.le_trans (dis_i z.2).1 (by decide), by
  have rs := z.1
  have hc := (dis_i z.2).2.1
  have q := (dis_i z.2).2.2
  have R₂ := R'.newMu (o := { cls := .type "list", data := .seq vals.toArray }) (m := .lst vs) rfl (.lst (rs.close hc))
  have hlen : ad'.length = st'.mu.length := by obtain ⟨_, _, _, _, _, MO⟩ := R'; exact MO.lad
  exact hq _ g' _ _ _ S (p.trans ⟨_, rfl⟩) ⟨.cel st'.mu.length, .cel (by rw [← hlen, List.getElem?_append_right (Nat.le_refl _), Nat.sub_self]; rfl), q⟩ R₂ hg' ho⟩) he)
end
end
section
noncomputable def nmOf : Expr → Str
 | .Name x _ => x
 | _ => "?"
noncomputable def isNm : Expr → Bool
 | .Name _ _ => true
 | _ => false
noncomputable def setAll (st : DS) : List (Str × V) → DS
 | [] => st
 | p :: l => setAll (st.set p.1 p.2) l
theorem lookup_app {l l' : List (Str × V)} {x : Str} : (l ++ l').lookup x = ((l.lookup x).or (l'.lookup x)) := by
 induction l with
 | nil => rfl
 | cons p l ih =>
  show ((p.1, p.2) :: (l ++ l')).lookup x = (((p.1, p.2) :: l).lookup x).or (l'.lookup x)
  rw [look_cons0, look_cons0, ih]
  cases x == p.1 <;> rfl
theorem setAll_look {x : Str} (l : List (Str × V)) (st : DS) : (setAll st l).ls.lookup x = (l.reverse ++ st.ls).lookup x := by
 induction l generalizing st with
 | nil => rfl
 | cons p l ih =>
  show (setAll (st.set p.1 p.2) l).ls.lookup x = _
  rw [ih, lookup_app]
  show (l.reverse.lookup x).or ((fput st.ls p.1 p.2).lookup x) = _
  rw [fput_look, reverse_cons, append_assoc, lookup_app]
  show _ = (l.reverse.lookup x).or (((p.1, p.2) :: st.ls).lookup x)
  rw [look_cons0]
  by_cases q : x = p.1
  ·rw [if_pos q, if_pos (beq_iff_eq.mpr q)]
  ·rw [if_neg q, if_neg (fun z => q (eq_of_beq z))]
theorem setAll_mu (l : List (Str × V)) (st : DS) : (setAll st l).mu = st.mu := by
 induction l generalizing st with
 | nil => rfl
 | cons p l ih => exact ih _
theorem lookup_none_of {l : List (Str × V)} {x : Str} (h : x ∉ l.map (·.1)) : l.lookup x = none := by
 cases q : l.lookup x with
 | none => rfl
 | some v => exact absurd (mem_look q) h
theorem lookup_rev {l : List (Str × V)} (x : Str) (h : (l.map (·.1)).Nodup) : l.reverse.lookup x = l.lookup x := by
 induction l with
 | nil => rfl
 | cons p l ih =>
  rw [map_cons, nodup_cons] at h
  rw [reverse_cons, lookup_app, ih h.2]
  show (l.lookup x).or ([(p.1, p.2)].lookup x) = ((p.1, p.2) :: l).lookup x
  rw [look_cons0, look_cons0]
  by_cases q : (x == p.1) = true
  ·rw [if_pos q, if_pos q, eq_of_beq q, lookup_none_of h.1]; rfl
  ·rw [if_neg q, if_neg q]; cases l.lookup x <;> rfl
section
variable {α β γ : Type}
variable {F₁ : (V → DS → Prop) → DS → Prop}
theorem s_inOrder {M : Model} (C : CxOk G cx) (l : List (Str × (Value → Sem Unit))) (vs : List V) (vals : List Value) (st : DS) (s : Shared) (Q : Unit → Shared → Prop)
  (hst : ∀ p ∈ l, ∀ val (Q : Unit → Shared → Prop) s, wpAny M A (storeName cx.envF p.1 val) Q E s → wpAny M A (p.2 val) Q E s) (hs : ∀ p ∈ l, storable cx.envF.scope p.1 = true) (rs : VRs G g ad vs vals) (hl : l.length = vs.length) (R : Rel G cx ex g ad st s.heap)
  (k : ∀ h' tk, Rel G cx ex g ad (setAll st ((l.map (·.1)).zip vs)) h' → Q () { s with heap := h', toks := tk }) : wpAny M A (assignInOrder (l.map (·.2)) vals) Q E s := by
 induction l generalizing vs vals st s with
 | nil =>
  have e : vs = [] := List.eq_nil_of_length_eq_zero hl.symm
  subst e
  exact rs.nil_e (wpAny_pure (k s.heap s.toks R))
 | cons p l ih =>
  cases vs with
  | nil => exact nomatch hl
  | cons v vs =>
   refine rs.cons_e fun val vals a rs => ?_
   show wpAny M A (do holding vals (p.2 val); assignInOrder (l.map (·.2)) vals) Q E s
   exact wpAny_bind (wpAny_holding (hst p (.head _) _ _ _ (s_store C a (storable_or (hs p (.head _))) R fun h' tk R' _ =>
    ih vs vals (st.set p.1 v) _ (fun q hq => hst q (.tail _ hq)) (fun q hq => hs q (.tail _ hq)) rs (Nat.succ.inj hl) R' fun h'' tk' R'' => k h'' tk' R'')))
noncomputable def seqOf : V → Option (List V)
 | .tup l => some l
 | .lst l => some l
 | _ => none
theorem s_unpack {v : V} {val : Value} {Q : List Value → Shared → Prop} (C : CxOk G cx) (O : AOk cx A r) (ra : VR G g ad v val) (he : seqOf v = some vs) (R : Rel G cx ex g ad st s.heap)
  (k : ∀ vals h' tk, VRs G g [] vs vals → Rel G cx ex g ad st h' → Q vals { s with heap := h', toks := tk }) : wpAny (model G.prog G.w) A (unpackItems val vs.length none) Q E s := by
 have hk : ∀ h', Heap.ExtBut s.heap.objs.size s.heap h' → Rel G cx ex g ad st h' := fun h' he => R.kept C fun b o e => he b o (Nat.ne_of_lt (Heap.lt_size e)) e
 have ln : ∀ {vals : List Value}, VRs G g [] vs vals → vs.length = vals.toArray.size := fun rs => rs.len.trans size_toArray.symm
 cases v with
 | lst l =>
  have e := Option.some.inj he
  subst e
  exact ra.lst_e fun a vals q rs => ln rs ▸ kun_itemsOf O.handled (q.list R) fun h' he => k vals h' _ rs (hk h' he)
 | tup l =>
  have e := Option.some.inj he
  subst e
  exact R.tup_e ra fun a vals q rs => ln rs ▸ wpAny_unpackItems_tuple O.handled q fun h' he => k vals h' _ rs (hk h' he)
 | _ => exact none_some he
noncomputable def starsOf (env : Env) : List Expr → List (Str × (Value → Sem Unit))
 | [] => []
 | e :: es => (nmOf e, assign e env) :: starsOf env es
theorem isNm_i {e : Expr} (h : isNm e = true) : ∃ x p, e = .Name x p := by
 cases e with
 | Name x p => exact ⟨x, p, rfl⟩
 | _ => exact Bool.noConfusion h
theorem all_cons' {e : Expr} {es : List Expr} (h : (e :: es).all isNm = true) : isNm e = true ∧ es.all isNm = true := Bool.and_eq_true_iff.mp (List.all_cons ▸ h)
theorem starsOf_fst {env : Env} (es : List Expr) : (starsOf env es).map (·.1) = es.map nmOf := by
 induction es with
 | nil => rfl
 | cons e es ih => exact congrArg (nmOf e :: ·) ih
theorem starsOf_snd {env : Env} {es : List Expr} (h : es.all isNm = true) : (starsOf env es).map (·.2) = (assignEach es env).map (·.2) ∧ (assignEach es env).findIdx? (·.1) = none ∧ (assignEach es env).length = es.length ∧ (starsOf env es).length = es.length := by
 induction es with
 | nil => exact ⟨rfl, rfl, rfl, rfl⟩
 | cons e es ih =>
  have z := all_cons' h
  have w := ih z.2
  obtain ⟨x, px, e1⟩ := isNm_i z.1
  subst e1
  have e₁ : assignEach (.Name x px :: es) env = (false, assign (.Name x px) env) :: assignEach es env := rfl
  rw [e₁]
  refine ⟨congrArg (assign (.Name x px) env :: ·) w.1, ?_, congrArg (· + 1) w.2.2.1, congrArg (· + 1) w.2.2.2⟩
  rw [List.findIdx?_cons, w.2.1]; rfl
theorem starsOf_ok {M : Model} {env : Env} {es : List Expr} (h : es.all isNm = true) (p : Str × (Value → Sem Unit)) (hp : p ∈ starsOf env es) : (∀ val (Q : Unit → Shared → Prop) s, wpAny M A (storeName env p.1 val) Q E s → wpAny M A (p.2 val) Q E s) ∧ p.1 ∈ es.map nmOf := by
 induction es with
 | nil => exact nomatch hp
 | cons e es ih =>
  have z := all_cons' h
  rcases mem_cons.mp hp with e1 | hp
  ·obtain ⟨x, px, e2⟩ := isNm_i z.1
   subst e1 e2
   exact ⟨fun val Q s h => assign_Name h, .head _⟩
  ·exact ⟨(ih z.2 hp).1, .tail _ (ih z.2 hp).2⟩
noncomputable def tupShape : Expr → Bool
 | .Tuple vs _ _ => !(vs.any fun | .Starred .. => true | _ => false) && !(vs.all (constantsAlone 8))
 | .ListComp .. => true
 | _ => false
theorem zip_rev {α β : Type} {l : List α} {l' : List β} (h : l.length = l'.length) : l.reverse.zip l'.reverse = (l.zip l').reverse := by
 induction l generalizing l' with
 | nil => rfl
 | cons a l ih => cases l' with
  | nil => exact nomatch h
  | cons b l' =>
   have h := Nat.succ.inj h
   rw [reverse_cons, reverse_cons, List.zip_append (by rw [length_reverse, length_reverse, h]), ih h]
   exact (reverse_cons (a := (a, b))).symm
noncomputable def ownNm (env : Env) (line : Nat) (e : Expr) : Option Str := match e with
 | .Name id pos => if env.kindOf id == some .local && pos.line == line then some id else none
 | _ => none
theorem names_swapped {env : Env} {line : Nat} {es : List Expr} (h : es.all isNm = true) (hl : (es.filterMap (ownNm env line)).length = es.length) : es.filterMap (ownNm env line) = es.map nmOf := by
 induction es with
 | nil => rfl
 | cons e es ih =>
  have z := all_cons' h
  obtain ⟨x, px, e1⟩ := isNm_i z.1
  subst e1
  have e2 : ownNm env line (.Name x px) = if env.kindOf x == some .local && px.line == line then some x else none := rfl
  rw [filterMap_cons, e2] at hl ⊢
  cases q : (env.kindOf x == some .local && px.line == line) with
  | true => rw [q] at hl; exact congrArg (x :: ·) (ih z.2 (Nat.succ.inj hl))
  | false => rw [q] at hl; exact absurd (List.length_filterMap_le (ownNm env line) es) (Nat.not_le_of_gt (hl ▸ Nat.lt_succ_self _))
theorem ite5 {α : Type} {c1 c2 c3 c4 c5 : Bool} {n a u : α} (h : c5 = false) : (if c1 = true then n else if c2 = true then n else if c3 = true then n else if c4 = true then n else if c5 = true then u else a) = n ∨ (if c1 = true then n else if c2 = true then n else if c3 = true then n else if c4 = true then n else if c5 = true then u else a) = a ∧ c3 = false := by
 subst h
 cases c1 with
 | true => exact .inl rfl
 | false => cases c2 with
  | true => exact .inl rfl
  | false => cases c3 with
   | true => exact .inl rfl
   | false => cases c4 with
    | true => exact .inl rfl
    | false => exact .inr ⟨rfl, rfl⟩
theorem swapped_or {env : Env} {elts : List Expr} {k : _} {tpos : Pos} {value : Expr} (hn : elts.all isNm = true) (hv : tupShape value = true) :
  swappedStores [.Tuple elts k tpos] value env = pure none ∨ swappedStores [.Tuple elts k tpos] value env = pure (some (elts.map nmOf)) := by
 cases value with
 | ListComp _ _ _ _ => exact .inl rfl
 | Tuple vs _ _ =>
  have hc : vs.all (constantsAlone 8) = false := (Bool.not_eq_true' _).mp (Bool.and_eq_true_iff.mp (show (_ && !(vs.all (constantsAlone 8))) = true from hv)).2
  exact (ite5 (n := pure none) (a := pure (some (elts.filterMap (ownNm env ((elts.head?.map (fun e : Expr => e.pos.line)).getD 0))))) hc).imp id fun q => And.left q |>.trans (congrArg (fun z => pure (some z)) (names_swapped hn (bne_eq_false_iff_eq.mp (Bool.or_eq_false_iff.mp (And.right q)).1)))
 | _ => exact Bool.noConfusion hv
theorem ws_AssignTuple {elts : List Expr} {k : _} {tpos pos : Pos} {e : Expr} (C : CxOk G cx) (O : AOk cx A r) (hn : elts.all isNm = true) (hx : (elts.map nmOf).all (storable cx.envF.scope) = true) (hd : (elts.map nmOf).Nodup) (hv : tupShape e = true)
  (h1 : Sd G cx A ex X ⟨cx.envF.scope, none⟩ cx.envF (eval e cx.envF) F₁) (h : F₁ (fun v st => oElim (seqOf v) fun vs => chk (Nat.beq vs.length elts.length) (N (setAll st ((elts.map nmOf).zip vs)))) st) :
  WS G cx A ex (exec (.Assign [.Tuple elts k tpos] e pos) cx.envF) N Rt X g ad st := fun s Q' E' R hg kn kr kl ke => by
 have hsole : swapsWithSole [.Tuple elts k tpos] e pos.line cx.envF = pure false := by
  cases e with
  | ListComp _ _ _ _ => rfl
  | Tuple _ _ _ => rfl
  | _ => exact Bool.noConfusion hv
 rw [all_eq_true] at hx
 obtain ⟨a1, a2, a3, a4⟩ := starsOf_snd (env := cx.envF) hn
 rcases swapped_or (env := cx.envF) (k := k) (tpos := tpos) hn hv with hw | hw
 ·refine Assign_Tuple (h1 _ g ad st .fn h s _ _ R hg (fun a g' ad' st' s' S p z R' hg' ho => Exists.elim z fun v z => oE_e z.2 fun vs he q => ?_) ke) hsole hw
  have rv := z.1
  have hl := Nat.eq_of_beq_eq_true (chk_elim q).1
  replace q := (chk_elim q).2
  rw [assign_Tuple]
  refine wpAny_bind (wpAny_standAt ?_)
  unfold unpack
  rw [a2, a3, ← hl]
  refine wpAny_bind (wpAny_holding (s_unpack C O rv he R' fun vals h' tk rs R₂ => ?_))
  rw [← a1]
  exact s_inOrder C _ vs vals st' _ _ (fun p hp => (starsOf_ok (A := A) (M := model G.prog G.w) hn p hp).1) (fun p hp => hx _ (starsOf_ok (M := model G.prog G.w) (A := A) (E := E') hn p hp).2) rs.lift (a4.trans hl.symm) R₂ fun h₃ tk₃ R₃ => by
   rw [starsOf_fst] at R₃
   exact kn g' ad' _ _ S p q R₃ hg' ho
 ·refine Assign_Tuple_swapped (h1 _ g ad st .fn h s _ _ R hg (fun a g' ad' st' s' S p z R' hg' ho => Exists.elim z fun v z => oE_e z.2 fun vs he q => ?_) ke) hsole hw
  have rv := z.1
  have hl := Nat.eq_of_beq_eq_true (chk_elim q).1
  replace q := (chk_elim q).2
  rw [length_map, ← hl]
  refine s_unpack C O rv he R' fun vals h' tk rs R₂ => ?_
  have := s_inOrder (M := model G.prog G.w) (A := A) (E := E') C ((elts.map nmOf).reverse.map fun n => (n, bindName cx.envF n)) vs.reverse vals.reverse st' { s' with heap := h', toks := tk } (fun _ => Q' .next) (fun p hp => by
   obtain ⟨n, _, rfl⟩ := mem_map.mp hp
   exact fun val Q s h => bindName_ h) (fun p hp => by
   obtain ⟨n, hn', rfl⟩ := mem_map.mp hp
   exact hx n (List.mem_reverse.mp hn')) rs.lift.reverse (by simp [hl]) R₂ fun h₃ tk₃ R₃ => by
    refine kn g' ad' (setAll st' ((elts.map nmOf).zip vs)) _ S p q ?_ hg' ho
    have hz : (((elts.map nmOf).reverse.map fun n => (n, bindName cx.envF n)).map (·.1)).zip vs.reverse = ((elts.map nmOf).zip vs).reverse := by
     rw [map_map]
     show ((elts.map nmOf).reverse.map fun n => n).zip vs.reverse = _
     rw [List.map_id', zip_rev (by simp [hl])]
    rw [hz] at R₃
    have R₄ : Rel G cx ex g' ad' { (setAll st' ((elts.map nmOf).zip vs).reverse) with ls := (setAll st' ((elts.map nmOf).zip vs)).ls } h₃ := R₃.congr fun x => by
     rw [setAll_look, setAll_look, List.reverse_reverse, lookup_app, lookup_app, lookup_rev x]
     rw [List.map_fst_zip (by simp [hl])]
     exact hd
    rw [show setAll st' ((elts.map nmOf).zip vs) = { (setAll st' ((elts.map nmOf).zip vs).reverse) with ls := (setAll st' ((elts.map nmOf).zip vs)).ls } from by
     show _ = (⟨(setAll st' ((elts.map nmOf).zip vs)).ls, (setAll st' ((elts.map nmOf).zip vs).reverse).mu⟩ : DS)
     rw [setAll_mu, ← setAll_mu ((elts.map nmOf).zip vs)]]
    exact R₄
  rw [map_map] at this
  exact this
end
end
section
noncomputable def loopB (FB : (DS → Prop) → (V → Option DS → Prop) → DS → Prop) : List (List (Str × V)) → (DS → Prop) → (V → Option DS → Prop) → DS → Prop
 | [], N, _, st => N st
 | b :: bs, N, Rt, st => FB (fun st' => loopB FB bs N Rt st') Rt (setAll st b)
structure loopW (FB : (DS → Prop) → (V → Option DS → Prop) → DS → Prop) (bs : List (List (Str × V))) (N : DS → Prop) (Rt : V → Option DS → Prop) (st : DS) : Prop where
 h : loopB FB bs N Rt st
section
variable {α β γ : Type}
variable {FB : (DS → Prop) → (V → Option DS → Prop) → DS → Prop} {Fi : (List (List (Str × V)) → DS → Prop) → DS → Prop}
inductive ForI (G : Gd) (cx : Cx) (ex : List (Addr × Obj)) (g₁ : PH) (ad₁ : List Addr) (n : Nat) (wr : List Addr) (St : Nat → Heap → Prop) (L : Nat → DS → Prop) (os : _) (k : Nat) (s' : Shared) : Prop
 | mk (i : Nat) (g' : PH) (ad' : List Addr) (st' : DS) (own : List (Addr × Obj)) : i ≤ n → k = n - i → Sub g₁ g' → ad₁ <+: ad' → own.map (·.1) = wr → St i s'.heap → Rel G cx (own ++ ex) g' ad' st' s'.heap → L i st' → s'.gens = #[] → s'.os = os → ForI G cx ex g₁ ad₁ n wr St L os k s'
theorem feed_frame {t : Expr} {I : Addr} {n : Nat} {bind : Nat → List (Str × V)} {fp wr : List Addr} {P Md : Nat → Value → Heap → Prop} {St : Nat → Heap → Prop} (F : Feed G A g₁ t I n bind fp wr P Md St) {i : Nat} {h₂ h₄ : Heap} {own : List (Addr × Obj)} {g' g₄ : PH} {ad' ad₄ : List Addr} {st' st₄ : DS}
  (hS : St i h₂) (how : own.map (·.1) = wr) (hown : ∀ q ∈ own, h₂.get? q.1 = some q.2) (R₂ : Rel G cx (own ++ ex) g' ad' st' h₂) (S : Sub g₁ g') (S₄ : Sub g' g₄) (R₄ : Rel G cx (own ++ ex) g₄ ad₄ st₄ h₄) : St i h₄ := by
 refine F.K.frame i h₂ h₄ hS fun b hb o e => ?_
 rcases F.fpok b hb with hw | ⟨o', ho'⟩
 ·rw [← how] at hw
  obtain ⟨q, hq, rfl⟩ := mem_map.mp hw
  exact e.symm.trans (hown q hq) ▸ R₄.exAt (mem_append_left _ hq)
 ·exact e.symm.trans (R₂.old (S _ _ ho')) ▸ R₄.old (S₄ _ _ (S _ _ ho'))
theorem for_loop {x : Str} {px : Pos} {body : List Stmt} {I : Addr} {bs : List (List (Str × V))} {fp wr : List Addr} {P Md : Nat → Value → Heap → Prop} {St : Nat → Heap → Prop} {R : Result → Shared → Prop}
  (C : CxOk G cx) (O : AOk cx A r) (F : Feed G A g₁ (.Name x px) I bs.length (fun i => bs[i]?.getD []) fp wr P Md St) (hx : storable cx.envF.scope x = true)
  (hbody : ∀ ex' g' ad' st' N Rt, FB N Rt st' → WS G cx A ex' (execs body cx.envF) N Rt X g' ad' st')
  (hN : ∀ g' ad' st' s', Sub g₁ g' → ad₁ <+: ad' → N st' → Rel G cx ex g' ad' st' s'.heap → s'.gens = #[] → s'.os = s.os → R (.ok .next) s')
  (hRs : ∀ v val g' ad' st' s', Sub g₁ g' → ad₁ <+: ad' → VR G g' [] v val → Rt v (some st') → Rel G cx ex g' ad' st' s'.heap → s'.gens = #[] → s'.os = s.os → R (.ok (.ret val)) s')
  (hRn : ∀ v val g' s', Sub cx.g₀ g' → VR G g' [] v val → Rt v none → Inv cx g' [] s'.heap → s'.gens = #[] → s'.os = s.os → R (.ok (.ret val)) s')
  (hRe : ∀ c e own s', X c → ExcIn G cx (own ++ ex) c e s'.heap → (∃ C, nsIn G.K mainGlobals c = some (some (.ref C)) ∧ ∃ fl, TracedFl s'.heap cx.base e C fl) → s'.gens = #[] → s'.os = s.os → R (.error (.ref e)) s')
  {own : List (Addr × Obj)} (how : own.map (·.1) = wr) (R0 : Rel G cx (own ++ ex) g₁ ad₁ st s.heap) (hst : St 0 s.heap) (hg : s.gens = #[]) (hF : loopB FB bs N Rt st) :
  codeAny (model G.prog G.w) A (.forLoop (.Name x px) (.ref I) body [] cx.envF) R s := by
 refine codeAny_forLoop_any (ForI G cx ex g₁ ad₁ bs.length wr St (fun i st' => loopB FB (bs.drop i) N Rt st') s.os) (fun k s₀ J => ?_) bs.length
  (.mk 0 g₁ ad₁ st own (Nat.zero_le _) rfl (Sub.refl _) (prefix_refl _) how hst R0 hF hg rfl)
 cases J with | mk i g' ad' st' own hi hk S p how hst R₀ hFi hg₀ ho₀ =>
 subst hk
 by_cases hlt : i < bs.length
 ·have hdrop : bs.drop i = bs[i] :: bs.drop (i + 1) := List.drop_eq_getElem_cons hlt
  rw [hdrop] at hFi
  have hbi : (bs[i]?).getD [] = bs[i] := by rw [List.getElem?_eq_getElem hlt]; rfl
  refine F.K.item i s₀ _ _ hlt hst fun v h₁ tk₁ hMd hk₁ => ?_
  refine F.K.go i v ⟨h₁, s₀.gens, s₀.drawn, tk₁, s₀.os⟩ _ _ hMd fun h₂ hP hSt' hk₂ => ?_
  obtain ⟨own₂, how₂, hown₂⟩ := live_list (F.live (i + 1) h₂ hSt')
  have hk₁₂ : ∀ b o, b ∉ own.map (·.1) → s₀.heap.get? b = some o → h₂.get? b = some o := fun b o hb e => hk₂ b o (how ▸ hb) (hk₁ b o (how ▸ hb) e)
  have R₂ : Rel G cx (own₂ ++ ex) g' ad' st' h₂ := R₀.swap C (by rw [how, how₂]; exact List.Sublist.refl _) hk₁₂ hown₂
  obtain ⟨y, hby, ry⟩ := F.nm i v h₂ x px hlt hP rfl
  rw [hbi] at hby
  rw [hby] at hFi
  have ry' : VR G g' ad' y v := ry.mono S List.nil_prefix
  refine wpAny_assign_Name (s_store C ry' (storable_or hx) R₂ fun h₃ tk₃ R₃ hk₃ => ?_)
  refine hbody (own₂ ++ ex) g' ad' (st'.set x y) _ _ hFi ⟨h₃, s₀.gens, s₀.drawn, tk₃, s₀.os⟩ _ _ R₃ hg₀ (fun g₄ ad₄ st₄ s₄ S₄ p₄ hN₄ R₄ hg₄ ho₄ => ?_) (fun v val g₄ ad₄ st₄ s₄ S₄ p₄ rv hr R₄ hg₄ ho₄ => ?_) (fun v val g₄ s₄ S₄ rv hr I₄ hg₄ ho₄ => ?_) fun c e s' hX hE hg' ho' => ?_
  ·exact ⟨bs.length - (i + 1), Nat.sub_succ_lt_self _ _ hlt, .mk (i + 1) g₄ ad₄ st₄ own₂ hlt rfl (S.trans S₄) (p.trans p₄) how₂ (feed_frame F hSt' how₂ hown₂ R₂ S S₄ R₄) R₄ hN₄ hg₄ (ho₄.trans ho₀)⟩
  ·exact hRs v val g₄ ad₄ st₄ s₄ (S.trans S₄) (p.trans p₄) rv hr (R₄.drop (List.sublist_append_right _ _)) hg₄ (ho₄.trans ho₀)
  ·exact hRn v val g₄ s₄ S₄ rv hr I₄ hg₄ (ho₄.trans ho₀)
  ·exact exc_noted C O.frames C.frame hE fun h' hE' ht => hRe c e own₂ _ hX hE' ht hg' (ho'.trans ho₀)
 ·have hin : i = bs.length := Nat.le_antisymm hi (Nat.not_lt.mp hlt)
  subst hin
  refine F.K.done s₀ _ _ hst fun h₁ tk₁ hk₁ => wpAny_execs_nil ?_
  have R₁ : Rel G cx ([] ++ ex) g' ad' st' h₁ := R₀.swap C (nil_sublist _) (fun b o hb e => hk₁ b o (how ▸ hb) e) (fun p hp => by cases hp)
  rw [List.drop_length] at hFi
  exact hN g' ad' st' _ S p hFi R₁ hg₀ ho₀
theorem ExcIn.fewer {c : Str} {e : Addr} {ex₁ : List (Addr × Obj)} (x : ExcIn G cx ex₁ c e h) (hs : ∀ p ∈ ex, p ∈ ex₁) : ExcIn G cx ex c e h := { x with exs := fun p hp => x.exs p (hs p hp) }
theorem ws_For {x : Str} {px pos : Pos} {iter : Expr} {body : List Stmt} (C : CxOk G cx) (O : AOk cx A r) (hx : storable cx.envF.scope x = true) (hs : isSet iter = false) (h1 : Sit G cx A ex X (.Name x px) iter Fi)
  (hbody : ∀ ex' g' ad' st' N Rt, FB N Rt st' → WS G cx A ex' (execs body cx.envF) N Rt X g' ad' st')
  (h : Fi (fun bs st => loopW FB bs N Rt st) st) : WS G cx A ex (exec (.For (.Name x px) iter body [] pos) cx.envF) N Rt X g ad st := fun s Q' E' R hg kn kr kl ke => by
 refine wpAny_For (h1 _ g ad st s _ _ h R hg (fun bs it g' ad' st' s' S' p hB hbn hfed hg' ho' => ?_) ke) (folded_plain hs _)
 obtain ⟨I, fp, wr, P, Md, St, own, rfl, F, how, R', hst⟩ := hfed
 refine for_loop C O F hx hbody (fun g₂ ad₂ st₂ s₂ S₂ p₂ n R₂ hg₂ ho₂ => kn g₂ ad₂ st₂ s₂ (S'.trans S₂) (p.trans p₂) n R₂ hg₂ (ho₂.trans ho'))
  (fun v val g₂ ad₂ st₂ s₂ S₂ p₂ rv n R₂ hg₂ ho₂ => kr v val g₂ ad₂ st₂ s₂ (S'.trans S₂) (p.trans p₂) rv n R₂ hg₂ (ho₂.trans ho'))
  (fun v val g₂ s₂ S₂ rv n I₂ hg₂ ho₂ => kl v val g₂ s₂ S₂ rv n I₂ hg₂ (ho₂.trans ho')) (fun c e own s₂ hX hE ht hg₂ ho₂ => ?_) how R' hst hg' hB.h
 exact exc_came hE ht fun h' hE' => ke c e _ hX (hE'.fewer fun p hp => mem_append_right _ hp) hg₂ (ho₂.trans ho')
end
end
section
theorem fput_len {x : Str} {v : V} : ∀ {l : List (Str × V)}, (fput l x v).length = l.length + (if l.lookup x = none then 1 else 0)
 | [] => rfl
 | (z, w) :: l => by
  unfold fput
  rw [lookup_cons]
  by_cases q : z = x
  ·subst q
   simp
  ·rw [if_neg (by simpa using q), show (x == z) = false by simpa using (Ne.symm q), length_cons, fput_len, length_cons]
   dsimp only
   omega
theorem putL_len (name : Str) (hsh : Int) (key v : Value) : ∀ es : List DictEntry, (putL name hsh key v es).length = es.length + (if es.any (·.key.isStr name) then 0 else 1)
 | [] => rfl
 | e :: r => by
  unfold putL
  cases q : e.key.isStr name with
  | true => simp [q]
  | false =>
   simp only [Bool.false_eq_true, if_false, length_cons, List.any_cons, q, Bool.false_or, putL_len name hsh key v r]
   omega
theorem find_none {es : List DictEntry} {x : Str} : (es.find? (·.key.isStr x)).map (·.val) = none ↔ es.any (·.key.isStr x) = false := by
 rw [Option.map_eq_none_iff, List.find?_eq_none]
 simp
theorem putL_look {name y : Str} {hsh : Int} {tk : Tok} {v : Value} : ∀ es : List DictEntry, ((putL name hsh (.str name tk) v es).find? (·.key.isStr y)).map (·.val) = if y = name then some v else (es.find? (·.key.isStr y)).map (·.val)
 | [] => by
  unfold putL
  rw [List.find?_cons]
  by_cases q : y = name
  ·subst q; simp [Value.isStr]
  ·rw [if_neg q]
   have : (Value.str name tk).isStr y = false := by
    unfold Value.isStr
    simpa using fun z => q z.symm
   simp [this]
 | e :: r => by
  unfold putL
  cases q : e.key.isStr name with
  | true =>
   simp only [if_true, List.find?_cons]
   by_cases z : y = name
   ·subst z; simp [q]
   ·have : e.key.isStr y = false := by
     cases h : e.key.isStr y with
     | false => rfl
     | true => exact absurd (Value.isStr_inj _ _ _ h q) z
    simp [this, z]
  | false =>
   simp only [Bool.false_eq_true, if_false, List.find?_cons]
   cases h : e.key.isStr y with
   | true =>
    have : y ≠ name := fun z => by subst z; rw [q] at h; cases h
    simp [this]
   | false => exact putL_look r
theorem putL_keys {name : Str} {hsh : Int} {tk : Tok} {v : Value} : ∀ es : List DictEntry, (∀ e ∈ es, ∃ n t, e.key = .str n t) → ∀ e ∈ putL name hsh (.str name tk) v es, ∃ n t, e.key = .str n t
 | [], _, e, he => by
  unfold putL at he
  rw [mem_singleton.mp he]
  exact ⟨name, tk, rfl⟩
 | a :: r, h, e, he => by
  unfold putL at he
  split at he
  ·rcases mem_cons.mp he with rfl | he
   ·exact h a (.head _)
   ·exact h e (.tail _ he)
  ·rcases mem_cons.mp he with rfl | he
   ·exact h e (.head _)
   ·exact putL_keys r (fun e he => h e (.tail _ he)) e he
theorem nsFind_list {l : List DictEntry} {x : Str} : nsFind l.toArray x = (l.find? (·.key.isStr x)).map (·.val) := by
 unfold nsFind findBy
 rw [List.find?_toArray]
theorem NsO.put {od : Obj} {m : Str → Option Value} {k : Nat} {x : Str} {hsh : Int} {tk : Tok} {v : Value} (h1 : od.cls = .type "dict") (h2 : od.slots = #[]) (h3 : od.dict = .none) (n : NsO od m) (z : DSz od k) :
  ∃ (od' : Obj) (es' : List DictEntry) (k' : Nat), Obj.putName x hsh (.str x tk) v od = od' ∧ od'.cls = .type "dict" ∧ od'.slots = #[] ∧ od'.dict = .none ∧ NsO od' (fun y => if y = x then some v else m y) ∧ od'.data = .dict es'.toArray k' ∧ es'.length ≤ k + (if m x = none then 1 else 0) := by
 obtain ⟨c, d, dt, sl⟩ := od
 dsimp only at h1 h2 h3
 subst h1 h2 h3
 obtain ⟨es, ep, e1, e2, e3⟩ := n
 obtain ⟨es₁, ep₁, e4, e5⟩ := z
 dsimp only at e1 e4
 subst e1
 cases e4
 obtain ⟨l⟩ := es
 refine ⟨_, _, _, putName_dict x hsh (.str x tk) v l ep, rfl, rfl, rfl, ⟨_, _, rfl, fun e he => putL_keys l (fun e he => e2 e (by simpa using he)) e (by simpa using he), fun y => ?_⟩, rfl, ?_⟩
 ·rw [nsFind_list, putL_look]
  show _ = if y = x then some v else m y
  rw [← e3 y, nsFind_list]
 ·rw [putL_len]
  have e5 : l.length ≤ k := by simpa using e5
  have := e3 x
  rw [nsFind_list] at this
  cases q : l.any (·.key.isStr x) with
  | true =>
   simp only [if_true]
   omega
  | false =>
   have q' := find_none.mpr q
   rw [this] at q'
   rw [if_pos q']
   simp only [Bool.false_eq_true, if_false]
   omega
section
variable {α β γ : Type}
end
end
section
noncomputable def setOk (K : Frag) (c x : Str) : Bool := match nsIn K mainGlobals c with
 | some (some (.ref C)) => findIn K (.ref C) "__setattr__" == some (some (.builtin "object.__setattr__")) && plainOver K C && takerIn K C x == some none && (clsIn K C).any (·.hasDict)
 | _ => false
noncomputable def oneBarr : List (Str × V) → Bool
 | [(_, .barr _)] => true
 | _ => false
noncomputable def others (h : Heap) (c L d : Nat) : List (Addr × Obj) := ((List.range h.objs.size).filter fun b => decide (c ≤ b) && !(b == L) && !(b == d)).filterMap fun b => (h.get? b).map fun o => (b, o)
theorem mem_others {h : Heap} {c L d : Nat} {p : Addr × Obj} : p ∈ others h c L d ↔ (c ≤ p.1 ∧ p.1 ≠ L ∧ p.1 ≠ d) ∧ h.get? p.1 = some p.2 := by
 unfold others
 rw [List.mem_filterMap]
 constructor
 ·rintro ⟨b, hb, e⟩
  obtain ⟨o, ho, rfl⟩ := Option.map_eq_some_iff.mp e
  have := (List.mem_filter.mp hb).2
  simp only [Bool.and_eq_true, decide_eq_true_eq, Bool.not_eq_true', beq_eq_false_iff_ne] at this
  exact ⟨⟨this.1.1, this.1.2, this.2⟩, ho⟩
 ·rintro ⟨⟨h1, h2, h3⟩, h4⟩
  refine ⟨p.1, List.mem_filter.mpr ⟨List.mem_range.mpr (Heap.lt_size h4), ?_⟩, by rw [h4]; rfl⟩
  simp only [Bool.and_eq_true, decide_eq_true_eq, Bool.not_eq_true', beq_eq_false_iff_ne]
  exact ⟨⟨h1, h2⟩, h3⟩
section
variable {α β γ : Type}
theorem cut_le {h : Heap} {L L' b : Nat} {o : Obj} (hl : L ≤ L') (e : (cutAt h L).get? b = some o) : (cutAt h L').get? b = some o := by
 rw [cutAt_get] at e ⊢
 by_cases q : b < L
 ·rw [if_pos q] at e; rw [if_pos (Nat.lt_of_lt_of_le q hl)]; exact e
 ·rw [if_neg q] at e; exact none_some e
theorem ite_le_one (p : Prop) [Decidable p] : (if p then 1 else 0) ≤ 1 := by split <;> decide
theorem setOk_i {K : Frag} {c x : Str} {C : Addr} (hk : setOk K c x = true) (hc : nsIn K mainGlobals c = some (some (.ref C))) : findIn K (.ref C) "__setattr__" = some (some (.builtin "object.__setattr__")) ∧ plainOver K C = true ∧ takerIn K C x = some none ∧ (clsIn K C).any (·.hasDict) = true := by
 unfold setOk at hk
 rw [hc] at hk
 have q := Bool.and_eq_true_iff.mp hk
 have q1 := Bool.and_eq_true_iff.mp q.1
 have q2 := Bool.and_eq_true_iff.mp q1.1
 exact ⟨eq_of_beq q2.1, q2.2, eq_of_beq q1.2, q.2⟩
theorem s_setField {x c : Str} {a Ca dx : Addr} {od : Obj} {m : Str → Option Value} {val : Value} {n₀ : Nat} {Q : Unit → Shared → Prop} (C : CxOk G cx) (R : Rel G cx ((a, instObj Ca dx) :: (dx, od) :: ex) g ad st s.heap)
  (hc : nsIn G.K mainGlobals c = some (some (.ref Ca))) (d1 : od.cls = .type "dict") (d2 : od.slots = #[]) (d3 : od.dict = .none) (n : NsO od m) (z : DSz od n₀) (hz : n₀ ≤ 500) (hk : setOk G.K c x = true)
  (k : ∀ od' h' tk, od'.cls = .type "dict" → od'.slots = #[] → od'.dict = .none → NsO od' (fun y => if y = x then some val else m y) → DSz od' (n₀ + (if m x = none then 1 else 0)) → Rel G cx ((a, instObj Ca dx) :: (dx, od') :: ex) g ad st h' → Q () { s with heap := h', toks := tk }) : wpAny (model G.prog G.w) A (setAttr (.ref a) x val) Q E s := by
 have e4 : s.heap.get? dx = some od := R.exAt (.tail _ (.head _))
 have n1 : dx ≠ cx.L := R.exL (p := (dx, od)) (.tail _ (.head _))
 have kk := setOk_i hk hc
 obtain ⟨mL, hm⟩ := R.ns
 have I : InstAt s.heap a (instObj Ca dx) Ca (some od) := ⟨R.exAt (.head _), rfl, rfl, e4⟩
 refine set_plain (R.kin C) I kk.1 ?_
 obtain ⟨od', es', k', p1, p2, p3, p4, p5, p6, p7⟩ := n.put (x := x) (hsh := PyData.keyHash G.w.params x) (tk := s.toks + 1) (v := val) d1 d2 d3 z
 have F : Fr (cutAt s.heap (min dx cx.L)) cx.L s.heap mL := ⟨hm, fun b o e => (brdF hm).keep b o (cut_le (Nat.min_le_right _ _) e), Nat.le_trans (cutAt_size _ _) (Nat.min_le_right _ _)⟩
 have Nw : News (cutAt s.heap (min dx cx.L)) cx.L s.heap ([] ++ (dx, od) :: others s.heap (min dx cx.L) cx.L dx) := fun p hp => by
  rcases mem_cons.mp hp with e | hp
  ·subst e; exact ⟨e4, n1, by rw [cutAt_get, if_neg (Nat.not_lt.mpr (Nat.min_le_left _ _))]⟩
  ·have q := mem_others.mp hp
   exact ⟨q.2, q.1.2.1, by rw [cutAt_get, if_neg (Nat.not_lt.mpr q.1.1)]⟩
 refine osa_dict (s := { s with toks := s.toks + 1 }) F Nw (R.kin C) I rfl kk.2.1 kk.2.2.1 kk.2.2.2 (by rw [n.look]; rfl) (fun p hp => nomatch hp) (fun p hp => (mem_others.mp hp).1.2.2) p1 p6 (Nat.le_trans p7 (Nat.le_trans (Nat.add_le_add hz (ite_le_one _)) (by decide))) fun h' F' N' => ?_
 have hdx : h'.get? dx = some od' := (N' (dx, od') (.head _)).1
 have keep : ∀ b o, s.heap.get? b = some o → b ≠ cx.L → b ≠ dx → h'.get? b = some o := fun b o e q1 q2 => by
  by_cases q : b < min dx cx.L
  ·exact F'.keep b o (by rw [cutAt_get, if_pos q]; exact e)
  ·exact (N' (b, o) (.tail _ (mem_others.mpr ⟨⟨Nat.not_lt.mp q, q1, q2⟩, e⟩))).1
 have hnf₀ : od.isFreed = false := by obtain ⟨_, _, q, _⟩ := n; exact Obj.isFreed_of_dict q
 have same : Heap.SameBut dx h' (h'.update dx fun _ => od) := Heap.SameBut.update ..
 have hdx₂ : (h'.update dx fun _ => od).get? dx = some od := Heap.get?_update_self _ hdx hnf₀
 have R₂ : Rel G cx ((a, instObj Ca dx) :: (dx, od) :: ex) g ad st (h'.update dx fun _ => od) := R.after hm (fun b o e q => by
  by_cases q2 : b = dx
  ·subst q2; exact Option.some.inj (e4.symm.trans e) ▸ hdx₂
  ·exact same.extBut b o q2 (keep b o e q q2)) (F'.ns.sameBut same (Ne.symm n1)) C
 exact k od' h' _ p2 p3 p4 p5 ⟨_, _, p6, p7⟩ (((R₂.perm (List.Perm.swap _ _ _)).putEx (h' := h') (o' := od') ⟨same.1.symm, fun b hb => (same.2 b hb).symm⟩ hdx).perm (List.Perm.swap _ _ _))
theorem s_setAttr {o val : Value} {j : Nat} {c x : Str} {fs : List (Str × V)} {v : V} {Q : Unit → Shared → Prop} (C : CxOk G cx) (ro : VR G g ad (.cel j) o) (rv : VR G g ad v val) (R : Rel G cx ex g ad st s.heap)
  (hj : st.mu[j]? = some (.inst c fs)) (hnb : oneBarr fs = false) (hk : setOk G.K c x = true) (hv : v.isCel = false ∧ v.isBarr = false) (hz : fs.length ≤ 500)
  (k : ∀ h' tk, Rel G cx ex g ad { st with mu := st.mu.set j (.inst c (fput fs x v)) } h' → Q () { s with heap := h', toks := tk }) : wpAny (model G.prog G.w) A (setAttr o x val) Q E s := by
 refine ro.cel_e (P := fun o => wpAny _ _ (setAttr o x val) Q E s) fun a ha => ?_
 refine R.lend_e hj fun a' l h1 mr R₂ => ?_
 have e := Option.some.inj (h1.symm.trans ha)
 subst e
 refine mr.inst_e (fun Ca dx od m e e2 d1 d2 d3 n z f f' => ?_) fun _ _ _ _ _ _ _ _ _ _ _ _ _ f1 _ _ => absurd (f1 ▸ hnb : oneBarr [(_, V.barr _)] = false) (fun z => Bool.noConfusion z)
 subst e
 have hno : (m x = none) ↔ (fs.lookup x = none) := ⟨fun q => by
  cases hl : fs.lookup x with
  | none => rfl
  | some w => exact Exists.elim (f x w hl).2 fun val' q' => none_some (q.symm.trans q'.1), f' x⟩
 refine s_setField (ex := ex) C R₂ e2 d1 d2 d3 n z hz hk fun od' h' tk p2 p3 p4 p5 p6 R₃ => k h' tk (Rel.backAt (l := [(a', instObj Ca dx), (dx, od')]) R₃ hj h1 (.inst e2 p2 p3 p4 p5 ?_ (fun y w hy => ?_) fun y hy => ?_))
 ·rw [fput_len]
  by_cases q : m x = none
  ·rw [if_pos q] at p6; rw [if_pos (hno.mp q)]; exact p6
  ·rw [if_neg q] at p6; rw [if_neg (fun z => q (hno.mpr z))]; exact p6
 ·rw [fput_look] at hy
  by_cases q : y = x
  ·rw [if_pos q] at hy
   have e := Option.some.inj hy
   subst e
   exact ⟨isBarr_ne hv.2, val, if_pos q, rv.close hv.1⟩
  ·rw [if_neg q] at hy
   exact ⟨(f y w hy).1, Exists.elim (f y w hy).2 fun val' z => ⟨val', (if_neg q).trans z.1, z.2⟩⟩
 ·rw [fput_look] at hy
  by_cases q : y = x
  ·rw [if_pos q] at hy; exact none_some hy.symm
  ·rw [if_neg q] at hy
   exact (if_neg q).trans (f' y hy)
end
end
section
noncomputable def itemSetT (o i v : V) (N : DS → Prop) (st : DS) : Prop := match o with
 | .cel j => oElim st.mu[j]? fun m => lstM m fun xs => intP i fun k => chk (!v.isCel) <| chk (Nat.ble xs.length lstLine) <| chk (natLt k xs.length) <| N { st with mu := st.mu.set j (.lst (xs.set k.toNat v)) }
 | _ => False
theorem itemSetT_i {o i v : V} {st : DS} {P : Prop} (h : itemSetT o i v N st) (k : ∀ j xs n, o = .cel j → st.mu[j]? = some (.lst xs) → i = .int n → v.isCel = false → xs.length ≤ lstLine → 0 ≤ n → n < xs.length → N { st with mu := st.mu.set j (.lst (xs.set n.toNat v)) } → P) : P := by
 cases o with
 | cel j =>
  refine oE_e h fun m hj h => ?_
  obtain ⟨xs, e, h⟩ := lstM_i h
  obtain ⟨n, e', h⟩ := intP_i h
  have h1 := chk_not h
  have h2 := chk_le h1.2
  have h3 := chk_elim h2.2
  have h4 := natLt_iff.mp h3.1
  exact k j xs n rfl (e ▸ hj) e' h1.1 h2.1 h4.1 h4.2 h3.2
 | _ => exact False.elim h
section
variable {α β γ : Type}
variable {F₁ F₂ F₃ : (V → DS → Prop) → DS → Prop}
theorem VRs.put {v : V} {val : Value} (rv : VR G g ad v val) {l : List V} {vals : List Value} (k : Nat) (x : VRs G g ad l vals) : VRs G g ad (l.set k v) (vals.set k val) := by
 induction l generalizing vals k with
 | nil => exact x.nil_e .nil
 | cons w l ih => exact x.cons_e fun a as q y => Nat.casesOn (motive := fun k => VRs G g ad ((w :: l).set k v) ((a :: as).set k val)) k (.cons rv y) fun k => .cons q (ih k y)
theorem s_setItem {o i a : Value} {ov iv v : V} {Q : Unit → Shared → Prop} (R : Rel G cx ex g ad st s.heap) (ro : VR G g ad ov o) (ri : VR G g ad iv i) (rv : VR G g ad v a) (h : itemSetT ov iv v N st) (hq : ∀ st' h', N st' → Rel G cx ex g ad st' h' → Q () { s with heap := h' }) : wpAny (model G.prog G.w) A (setItem o i a) Q E s := by
 refine itemSetT_i h fun j xs n e1 e3 e2 e4 e0 e5 e6 e7 => ?_
 subst e1 e2
 refine ri.int_e fun t => setLst_e R ro e3 fun b vs n₀ q2 q3 fin => ?_
 have hsz : vs.toArray.size = xs.length := size_toArray.trans q3.len.symm
 refine ki_setAt (n := n₀) q2 e5 (Int.lt_trans e6 (Int.lt_of_le_of_lt (Int.ofNat_le.mpr e0) (by decide))) (hsz ▸ e6) ?_
 refine hq _ _ e7 (fin _ _ (vs.set n.toNat a) n₀ (Heap.SameBut.update ..) ?_ (VRs.put (rv.close e4) _ q3))
 refine Eq.trans (PySem.IsL.update (n := n₀) (items := vs.toArray) q2 (·.setIfInBounds n.toNat a)) ?_
 rw [if_pos (by rw [Array.size_setIfInBounds]; exact beq_self_eq_true _)]
 simp [lstO]
theorem ws_AssignSub {o i e : Expr} {ap pos : Pos} (C : CxOk G cx) (hs : isComp e = false) (h1 : Sd G cx A ex X ⟨cx.envF.scope, none⟩ cx.envF (eval e cx.envF) F₁) (h2 : Sd G cx A ex X ⟨cx.envF.scope, none⟩ cx.envF (eval o cx.envF) F₂) (h3 : Sd G cx A ex X ⟨cx.envF.scope, none⟩ cx.envF (eval i cx.envF) F₃)
  (h : F₁ (fun v st => F₂ (fun ov st => F₃ (fun iv st => itemSetT ov iv v N st) st) st) st) : WS G cx A ex (exec (.Assign [.Subscript o i ap] e pos) cx.envF) N Rt X g ad st := fun s Q' E' R hg kn kr kl ke =>
 wpAny_Assign_Subscript (h1 _ g ad st .fn h s _ _ R hg (fun a g' ad' st' s' S p z R' hg' ho => Exists.elim z fun v z =>
  h2 _ g' ad' st' .fn z.2 s' _ _ R' hg' (fun b g₂ ad₂ st₂ s₂ S₂ p₂ z₂ R₂ hg₂ ho₂ => Exists.elim z₂ fun ov z₂ =>
   h3 _ g₂ ad₂ st₂ .fn z₂.2 s₂ _ _ R₂ hg₂ (fun b' g₃ ad₃ st₃ s₃ S₃ p₃ z₃ R₃ hg₃ ho₃ => Exists.elim z₃ fun iv z₃ =>
    s_setItem R₃ (z₂.1.mono S₃ p₃) z₃.1 ((z.1.mono S₂ p₂).mono S₃ p₃) z₃.2 fun st' h' q R₄ => kn g₃ ad₃ _ _ (S.trans (S₂.trans S₃)) (p.trans (p₂.trans p₃)) q R₄ hg₃ (ho₃.trans (ho₂.trans ho)))
    fun c e s' x y hg₃ ho₃ => ke c e s' x y hg₃ (ho₃.trans (ho₂.trans ho)))
   fun c e s' x y hg₂ ho₂ => ke c e s' x y hg₂ (ho₂.trans ho)) ke) (swaps_plain hs _ _ _)
theorem Rel.lad (R : Rel G cx ex g ad st h) : ad.length = st.mu.length := R.e fun _ _ _ _ _ MO => MO.lad
theorem last_at {α : Type} {l : List α} {n : Nat} {a : α} (h : l.length = n) : (l ++ [a])[n]? = some a := by rw [← h, List.getElem?_append_right (Nat.le_refl _), Nat.sub_self]; rfl
theorem Rel.exMu {own : List (Addr × Obj)} {a : Addr} {m : M} (R : Rel G cx (own ++ ex) g ad st h) (hm : MR G g [] m a own) : Rel G cx ex g (ad ++ [a]) { st with mu := st.mu ++ [m] } h := by
 obtain ⟨oL, cs, fp, I, L, MO⟩ := R
 have pre : ad <+: ad ++ [a] := ⟨_, rfl⟩
 refine ⟨oL, cs, fp ++ [own], I.perm ?_, L.mono (Sub.refl g) pre, ?_⟩
 ·refine List.Perm.cons _ (List.Perm.append_left _ ?_)
  rw [List.flatten_append, append_assoc]
  show (own ++ (ex ++ fp.flatten)).Perm (ex ++ (fp.flatten ++ (own ++ [])))
  rw [append_nil, ← append_assoc ex]
  exact perm_append_comm
 ·refine ⟨by simp [MO.len], by simp [MO.lad], fun j m' a l e1 e2 e3 => ?_⟩
  by_cases q : j < st.mu.length
  ·rw [List.getElem?_append_left q] at e1
   rw [List.getElem?_append_left (by rw [MO.lad]; exact q)] at e2
   rw [List.getElem?_append_left (by rw [MO.len]; exact q)] at e3
   exact (MO.rel j m' a l e1 e2 e3).any
  ·have q1 : j = st.mu.length := by
    have := (List.getElem?_eq_some_iff.mp e1).1
    rw [length_append] at this
    simp at this
    omega
   subst q1
   rw [List.getElem?_append_right (Nat.le_refl _), Nat.sub_self] at e1
   rw [List.getElem?_append_right (by rw [MO.lad]; exact Nat.le_refl _), MO.lad, Nat.sub_self] at e2
   rw [List.getElem?_append_right (by rw [MO.len]; exact Nat.le_refl _), MO.len, Nat.sub_self] at e3
   cases e1; cases e2; cases e3
   exact hm.any
end
end
section
section
variable {α β γ : Type}
variable {F₁ F₂ F₃ : (V → DS → Prop) → DS → Prop}
theorem Rel.newCell {xs : List V} {vs : List Value} {n : Nat} {m : Str → Option Value} {a : Addr} (C : CxOk G cx) (R : Rel G cx ex g ad st h) (hm : h.Ns cx.L m) (hk : ∀ b o, h.get? b = some o → b ≠ cx.L → h'.get? b = some o) (hn : h'.Ns cx.L m) (ha : h.objs.size ≤ a) (e : h'.get? a = some (lstO vs n)) (rs : VRs G g [] xs vs) :
  Rel G cx ex g (ad ++ [a]) { st with mu := st.mu ++ [.lst xs] } h' := by
 obtain ⟨oL, cs, fp, I, LO, MO, lt⟩ := R.after0 hm hk hn C
 have hI : Inv cx g ((a, lstO vs n) :: ((cx.L, oL) :: (cs ++ (ex ++ fp.flatten)))) h' := by
  obtain ⟨lv, J⟩ := R.inv
  refine ⟨I.size, I.keep, I.old, I.sub, I.fresh, fun p hp => ?_, fun p hp => ?_, ?_⟩
  ·rcases mem_cons.mp hp with rfl | hp
   ·exact e
   ·exact I.cur p hp
  ·rcases mem_cons.mp hp with rfl | hp
   ·exact ⟨J.gnone ha, .inl (J.hnone ha)⟩
   ·exact I.own p hp
  ·rw [map_cons, nodup_cons]
   exact ⟨fun hmem => let ⟨p, hp, q⟩ := mem_map.mp hmem; absurd (lt p hp) (Nat.not_lt.mpr (q ▸ ha)), I.nd⟩
 refine Rel.exMu (own := [(a, lstO vs n)]) ⟨oL, cs, fp, hI.perm ?_, LO, MO⟩ (.lst rs)
 refine (List.Perm.swap _ _ _).trans (List.Perm.cons _ ?_)
 exact perm_middle.symm
noncomputable def addNew (a b : V) (Q : V → DS → Prop) (st : DS) : Prop := oElim (asLst st.mu a) fun xs => oElim (asLst st.mu b) fun ys => chk (Nat.ble (xs.length + ys.length) lstLine) (Q (.cel st.mu.length) { st with mu := st.mu ++ [.lst (xs ++ ys)] })
theorem s_addNew {a b : Value} {va vb : V} {Q : V → DS → Prop} (C : CxOk G cx) (ra : VR G g ad va a) (rb : VR G g ad vb b) (h : addNew va vb Q st) : WV G cx A ex (binaryOp .Add a b) Q X g ad st := by
 refine oE_e h fun xs e1 h => oE_e h fun ys e2 h => ?_
 have h3 := (chk_le h).1
 replace h := (chk_le h).2
 intro s Q' E' R hg k he
 refine R.list_e ra e1 fun l vs il ql => ?_
 refine R.list_e rb e2 fun l' ws il' ql' => ?_
 obtain ⟨m, hm⟩ := R.ns
 refine add_lists (brdF hm) brdN il il' (fun h' F' N' => ?_) (by rw [← ql.len, ← ql'.len]; exact Nat.le_trans h3 lstLine_le)
 have R' := R.newCell (h' := h') (n := 0) C hm (fun b o e hb => brd_after F' N' (fun p hp => .tail _ hp) e hb) F'.ns (Nat.le_refl _) (N' _ (.head _)).1 (ql.append ql')
 have hlen : ad.length = st.mu.length := by obtain ⟨_, _, _, _, _, MO⟩ := R; exact MO.lad
 exact k _ g _ _ _ (Sub.refl g) ⟨_, rfl⟩ ⟨.cel st.mu.length, .cel (by rw [← hlen, List.getElem?_append_right (Nat.le_refl _), Nat.sub_self]; rfl), h⟩ R' hg rfl
theorem r_AddNew {l e : Expr} {pos} (C : CxOk G cx) (h1 : Sd G cx A ex X nc env (eval l env) F₁) (h2 : Sd G cx A ex X nc env (eval e env) F₂) :
  Sd G cx A ex X nc env (eval (.BinOp l .Add e pos) env) (fun Q st => F₁ (fun a st => F₂ (fun b st => addNew a b Q st) st) st) := fun Q g ad st N h =>
 W.via2 (fun Q E s => wpAny_BinOp) (h1.go N h fun a v g' ad' st' S p N' ra h => h2.go N' h fun b w g₂ ad₂ st₂ S₂ p₂ N₂ rb h => s_addNew C (ra.mono S₂ p₂) rb h)
end
end
section
theorem tc_guard (args : Args) : (Code.builtin "type.__call__" args).isGuard = false := by
 first | rfl | simp [Code.isGuard, guardIds]
theorem tc_w (args : Args) : (Code.builtin "type.__call__" args).weight ≤ 10 := by
 have h3 : (Code.builtin "type.__call__" args).isCaller = false := by kernel_rfl
 have h4 : (Code.builtin "type.__call__" args).frames = 0 := by kernel_rfl
 unfold Code.weight
 rw [tc_guard, h3, h4]
 split <;> decide
theorem tc_u (args : Args) : (Code.builtin "type.__call__" args).cUnits ≤ 50 := by
 exact Nat.le_of_ble_eq_true (by kernel_rfl)
theorem tc_under (A : Around) (args : Args) : (A.under (.builtin "type.__call__" args)).frames = A.frames ∧ (A.under (.builtin "type.__call__" args)).handled = A.handled ∧ (A.under (.builtin "type.__call__" args)).guards = A.guards ∧ (A.under (.builtin "type.__call__" args)).depth ≤ A.depth + 10 ∧ (A.under (.builtin "type.__call__" args)).units ≤ A.units + 50 := by
 refine ⟨?_, rfl, ?_, Nat.add_le_add_left (tc_w args) _, Nat.add_le_add_left (tc_u args) _⟩
 ·have : (Code.builtin "type.__call__" args).envs = [] := by kernel_rfl
  unfold Around.under
  simp only [this]
  cases A.frames <;> rfl
 ·have : (Code.builtin "type.__call__" args).guards = [] := by unfold Code.guards; rw [tc_guard]; rfl
  unfold Around.under
  simp only [this]
  cases A.guards <;> rfl
noncomputable def makeV (φ : Ctr) (c : Str) (vs : List V) (st : DS) (Q : V → DS → Prop) (X : Str → Prop) : Prop :=
 callV φ (.cel st.mu.length :: vs) { st with mu := st.mu ++ [.inst c []] } (fun v st' => noneK v (Q (.cel st.mu.length) st')) X
section
variable {α β γ : Type}
variable {F₁ F₂ F₃ : (V → DS → Prop) → DS → Prop}
theorem s_make {c : Str} {Ca fI : Addr} {φ : Ctr} {vals : List Value} {Q : V → DS → Prop} (C : CxOk G cx) (O : AOk cx A (r + 1)) (hx : nsIn G.K mainGlobals c = some (some (.ref Ca))) (hm : makesIn G.K Ca = true)
  (hi : findIn G.K (.ref Ca) "__init__" = some (some (.ref fI))) (hf : typeIn G.K (.ref fI) = some (.type "function")) (S : SoundF G r fI φ) (rs : VRs G g ad vs vals) (hv : makeV φ c vs st Q X) : WV G cx A ex (call (.ref Ca) vals) Q X g ad st := by
 intro s Q' E' R hg k he
 obtain ⟨hh, gs, d, t, os⟩ := s
 refine wpAny_call ?_
 refine make_core (makes_of (R.kin C) hm) (looks_findIn (R.kin C) hi) (fun self => bind_fn (R.kin C) self hf) (.inl rfl) ?_
 have R₁ := (R.pushEx (o := emptyDict) rfl).pushEx (o := instObj Ca hh.objs.size) rfl
 have hsz : (hh.push emptyDict).objs.size = hh.objs.size + 1 := Heap.size_push ..
 rw [hsz] at R₁
 have R₂ := Rel.exMu (m := .inst c []) (a := hh.objs.size + 1) (own := [(hh.objs.size + 1, instObj Ca hh.objs.size), (hh.objs.size, emptyDict)]) R₁
  (.inst (m := fun _ => none) hx rfl rfl rfl ⟨#[], 0, rfl, fun e he => absurd he (Array.not_mem_empty e), fun n => rfl⟩ ⟨#[], 0, rfl, Nat.zero_le _⟩ (fun x v h => none_some h) (fun _ _ => rfl))
 have hself : VR G g (ad ++ [hh.objs.size + 1]) (.cel st.mu.length) (.ref (hh.objs.size + 1)) := .cel (last_at R.lad)
 refine codeAny_mono (s_codeF (s := ⟨(hh.push emptyDict).push (instObj Ca hh.objs.size), gs, d, t, os⟩) (Q' := fun v s' => v = .none ∧ Q' (.ref (hh.objs.size + 1)) s') (E' := E') C O S (.cons hself (rs.mono (Sub.refl _) ⟨_, rfl⟩)) hv R₂ hg (fun v val g' st' s' S' rv q R' hg' ho => ?_) he (tc_under A _)) fun r s' z => ?_
 ·obtain ⟨rfl, q⟩ := noneK_elim q
  obtain rfl := rv.inv
  exact ⟨rfl, k _ g' _ st' s' S' ⟨_, rfl⟩ ⟨_, hself.mono S' (prefix_refl _), q⟩ R' hg' ho⟩
 ·rcases r with e | (v | _ | _ | _) <;> exact z
end
end
section
section
variable {α β γ : Type}
theorem lookup_mem_nodup {fs : List (Str × V)} {x : Str} {v : V} (nd : (fs.map (·.1)).Nodup) (h : (x, v) ∈ fs) : fs.lookup x = some v := by
 induction fs with
 | nil => exact nomatch h
 | cons p fs ih =>
  obtain ⟨y, w⟩ := p
  rw [map_cons, nodup_cons] at nd
  rw [look_cons]
  rcases mem_cons.mp h with e | h
  ·cases e; rw [if_pos (beq_self_eq_true x)]
  ·rw [if_neg fun z => nd.1 (mem_map.mpr ⟨(x, v), h, eq_of_beq z⟩)]
   exact ih nd.2 h
theorem fields_vals {m : Str → Option Value} {fs : List (Str × V)} (k : ∀ p ∈ fs, ∃ val, m p.1 = some val ∧ VR G g [] p.2 val) :
  ∃ vals, (fs.map (·.1)).length = vals.length ∧ (∀ (i : Nat) (x : Str) (v : Value), (fs.map (·.1))[i]? = some x → vals[i]? = some v → m x = some v) ∧ VRs G g [] (fs.map (·.2)) vals := by
 induction fs with
 | nil => exact ⟨[], rfl, fun i x v e => none_some e, .nil⟩
 | cons p fs ih =>
  obtain ⟨vals, a, b, c⟩ := ih fun q hq => k q (.tail _ hq)
  obtain ⟨val, e1, e2⟩ := k p (.head _)
  refine ⟨val :: vals, congrArg (· + 1) a, fun i => ?_, .cons e2 c⟩
  cases i with
  | zero => exact fun x v h1 h2 => Option.some.inj h1 ▸ Option.some.inj h2 ▸ e1
  | succ i => exact fun x v h1 h2 => b i x v h1 h2
noncomputable def nDup : List Str → Bool
 | [] => true
 | x :: xs => !xs.contains x && nDup xs
theorem nDup_nodup {l : List Str} (h : nDup l = true) : l.Nodup := by
 induction l with
 | nil => exact List.nodup_nil
 | cons x l ih =>
  have q := Bool.and_eq_true_iff.mp (show (!l.contains x && nDup l) = true from h)
  exact nodup_cons.mpr ⟨fun z => Bool.noConfusion ((List.contains_iff_mem.mpr z ▸ q.1 : (!true) = true)), ih q.2⟩
theorem Rel.freezeInst {j : Nat} {c : Str} {fs : List (Str × V)} {a : Addr} (C : CxOk G cx) (R : Rel G cx ex g ad st h) (hj : st.mu[j]? = some (.inst c fs)) (hnb : oneBarr fs = false) (hnd : (fs.map (·.1)).Nodup) (ha : ad[j]? = some a) :
  ∃ g', Sub g g' ∧ VR G g' [] (.inst c (fs.map (·.1)) (fs.map (·.2))) (.ref a) ∧ Rel G cx ex g' ad { st with mu := st.mu.set j .dead } h := by
 refine R.lend_e hj fun a' l h1 mr R₂ => ?_
 have e := Option.some.inj (h1.symm.trans ha)
 subst e
 refine mr.inst_e (fun Ca dx od m e e1 e2 e3 e4 n z f f' => ?_) fun _ _ _ _ _ _ _ _ _ _ _ _ _ f1 _ _ => absurd (f1 ▸ hnb : oneBarr [(_, V.barr _)] = false) (fun z => Bool.noConfusion z)
 subst e
 have q1 := R₂.rest (ex := (dx, od) :: ex)
 have q2 := q1.2.rest (ex := ex)
 have S := q1.1.trans q2.1
 obtain ⟨vals, v1, v2, v3⟩ := fields_vals (G := G) (g := g) (m := m) (fs := fs) fun p hp => (f p.1 p.2 (lookup_mem_nodup hnd hp)).2
 exact ⟨_, S, .inst e1 (q2.1 _ _ (upd_self _ _ _)) (upd_self _ _ _) e2 e3 n ⟨v1, v2, fun x hx => f' x (lookup_none_of hx)⟩ (v3.mono S (prefix_refl _)), q2.2⟩
noncomputable def retM (m : M) (j : Nat) (st : DS) (Rt : V → Option DS → Prop) : Prop := match m with
 | .lst xs => Rt (.lst xs) (some { st with mu := st.mu.set j .dead })
 | .inst c fs => chk (!oneBarr fs && nDup (fs.map (·.1))) (Rt (.inst c (fs.map (·.1)) (fs.map (·.2))) (some { st with mu := st.mu.set j .dead }))
 | _ => False
noncomputable def retT (bb : Bool) (v : V) (st : DS) (Rt : V → Option DS → Prop) : Prop := match v with
 | .cel j => oElim st.mu[j]? fun m => retM m j st Rt
 | v => Rt v (some st)
theorem ws_ReturnW {e : Expr} {pos : Pos} {bb : Bool} {F : (V → DS → Prop) → DS → Prop} (C : CxOk G cx) (hD : bb = false → cx.D = []) (h1 : Sd G cx A ex X ⟨cx.envF.scope, none⟩ cx.envF (eval e cx.envF) F) (h : F (fun v st => retT bb v st Rt) st) :
  WS G cx A ex (exec (.Return (some e) pos) cx.envF) N Rt X g ad st := by
 refine ws_ev (f := fun v => pure (.ret v)) (fun Q E s z => ?_) (h1 _ g ad st .fn h) fun a v g' ad' st' S rv q => ?_
 ·rw [exec_Return_some]
  exact wpAny_bind (wpAny_standAt (wpAny_bind z))
 ·intro s Q' E' R hg kn kr kl ke
  refine wpAny_pure ?_
  have plain : v.isCel = false → Rt v (some st') → Q' (.ret a) s := fun hc q => kr v a g' ad' st' s (Sub.refl _) (prefix_refl _) (rv.close hc) q R hg rfl
  cases v with
  | cel j =>
   revert kr plain
   refine rv.cel_e fun a' ha kr _ => oE_e q fun m hj q => ?_
   cases m with
   | lst xs =>
    obtain ⟨g₂, S₂, rv₂, R₂⟩ := R.freezeMu C hj ha
    exact kr (.lst xs) _ g₂ ad' _ s S₂ (prefix_refl _) rv₂ q R₂ hg rfl
   | inst c fs =>
    have h1 := chk_elim q
    have h2 := Bool.and_eq_true_iff.mp h1.1
    obtain ⟨g₂, S₂, rv₂, R₂⟩ := R.freezeInst C hj (Bool.not_eq_eq_eq_not.mp h2.1) (nDup_nodup h2.2) ha
    exact kr _ _ g₂ ad' _ s S₂ (prefix_refl _) rv₂ h1.2 R₂ hg rfl
   | _ => exact False.elim q
  | _ => exact plain rfl q
end
end
section
section
variable {c : Str} {e : Addr}
theorem ExcIn.inv (C : CxOk G cx) (hD : cx.D = []) (x : ExcIn G cx ex c e h) : Inv cx cx.g₀ [] h := by
 obtain ⟨_, ⟨L, o, hL, _, hLo, _⟩, _⟩ := x.frames
 rw [C.frame] at hL
 cases hL
 refine ⟨Nat.le_trans C.above (Nat.le_of_lt (Heap.lt_size hLo)), fun b o e hb => ?_, fun a o e => x.stays _ _ (C.g0 a o e), fun _ _ e => e, fun _ _ e => .inl e, (fun p hp => nomatch hp), (fun p hp => nomatch hp), List.nodup_nil⟩
 have key : b ∉ frs cx.outer → h.get? b = some o := fun nf => x.stays _ _ (C.hbase b o e hb nf)
 refine ⟨key, ?_⟩
 by_cases hf : b ∈ frs cx.outer
 ·exact x.up b o hf e
 ·exact ⟨o.slots, key hf⟩
theorem ws_TryNone {body : List Stmt} {x : Str} {np hp pos rp kp : Pos} {k : Nat} (C : CxOk G cx) (O : AOk cx A r) (hD : cx.D = []) (hk : cx.envF.scope.names.lookup x = some .globalImplicit) (hd : (x == ("__debug__" : Str)) = false) {Ca : Addr}
  (hx : nsIn G.K mainGlobals x = some (some (.ref Ca))) (hq : ktsIn G.K Ca "BaseException" = true)
  (hb : WS G cx A ex (execs body cx.envF) N Rt (fun c => c = x ∧ Rt .none none) g ad st) :
  WS G cx A ex (exec (.Try body [.ExceptHandler (some (.Name x np)) none [.Return (some (.Constant .none k kp)) rp] hp] [] [] pos) cx.envF) N Rt X g ad st := fun s Q' E' R hg kn kr kl ke => by
 refine wpAny_Try_except (hb s _ _ R hg (fun g' ad' st' s' S p q R' hg' ho => wpAny_execs_nil (kn g' ad' st' s' S p q R' hg' ho)) kr kl fun c e s' hc hE hg' ho => ?_)
 obtain ⟨hc, hn⟩ := hc
 subst hc
 obtain ⟨sh, sg, sd, st', sos⟩ := s'
 refine exc_note C O.frames C.frame hE fun h₁ hE₁ ⟨Cl, hcl, ht⟩ => ?_
 rw [hx] at hcl
 cases hcl
 refine exc_flight (s := ⟨h₁, sg, sd, st', sos⟩) hE₁ hx ht fun h₂ hE₂ ht₂ => ?_
 have hb0 : G.b₀.StaysIn h₂ := fun b o e => hE₂.stays _ _ (C.b₀ b o e)
 have KI := G.X.keeps hb0
 obtain ⟨nm, qn, Nn, bs, bm, hdct, sn, sub, ab, col, dd, k0, k1, k2, k3, k5, newId, hC, hbase, _⟩ := kts_cls KI hq
 obtain ⟨oe, vs, T, oT, ts, he, hcl, _⟩ := id ht₂
 refine wpAny_handleBy_cons (codeAny_handlers_test (Name_function_global C.kind hk (loadGlobal_global (env := cx.envF) (by rw [C.globs]; exact (G.T.keeps hb0).g) (mg_of KI (G.T.keeps hb0).g hx) ?_) hd)) (by intro q; cases q)
 refine wpAny_excMatches_sub_self hC he hcl hbase (codeAny_handlers_suite ?_)
 refine exc_flight (s := ⟨h₂, sg, sd, st', sos⟩) hE₂ hx ht₂ fun h₃ hE₃ _ => ?_
 refine wpAny_execs_cons ?_
 rw [exec_Return_some]
 exact wpAny_bind (wpAny_standAt (wpAny_bind (wpAny_Constant_none (wpAny_pure (kl .none .none cx.g₀ _ (Sub.refl _) .none hn (hE₃.inv C hD) hg' ho)))))
end
end
section
section
variable {R : Result → Shared → Prop} {g : Array GenState} {d : Drawn} {t : Nat} {os : OsState}
variable {nm q : Str} {C N : Addr} {bs bm : List Value} {hdct : Bool} {sn : List Str} {sub : List Value} {ab : Bool} {col : Option Bool} {dd : Option Addr} {k0 k1 k2 k3 k5 : Option Value}
noncomputable def excTail (bm : List Value) : Bool := bm.contains (.type "Exception") && !bm.contains (.type "AttributeError") && !bm.contains (.type "NameError")
theorem xc_new (hb : excTail bm = true) {rest : List Value} (hC : h.get? C = some (excClassObj nm q C N bs bm hdct sn sub ab col dd k0 k1 k2 k3 k5 "Exception.__new__"))
  (hq : R (.ok (.ret (.ref (h.objs.size + 1)))) ⟨(h.push { cls := .type "tuple", data := .seq rest.toArray }).push
   { cls := .ref C, data := .fields #[.ref h.objs.size, .none, .none, .none, .bool false, .none] }, g, d, t, os⟩) (hrest : rest.length ≤ sizeLine) :
  codeAny (model prog w) A (.builtin "Exception.__new__" ⟨.ref C :: rest, []⟩) R ⟨h, g, d, t, os⟩ := by
 unfold excTail at hb
 simp only [Bool.and_eq_true, Bool.not_eq_true'] at hb
 have F := PySem.F.excBase_Exception
 have hends := F.ends
 have hcB : (Value.ref C :: bm).contains (.type "Exception") = true := by rw [List.contains_cons, hb.1.1, Bool.or_true]
 have hcA : (Value.ref C :: bm).contains (.type "AttributeError") = false := by rw [List.contains_cons, hb.1.2]; rfl
 have hcN : (Value.ref C :: bm).contains (.type "NameError") = false := by rw [List.contains_cons, hb.2]; rfl
 refine PySem.codeAny_builtinAt F.entry ?_
 unfold Builtin.«BaseException.__new__»
 refine PySem.wpAt_bind ?_
 show PySem.wpAt _ _ _ (stack >>= _) _ _ _
 refine PySem.wpAt_bind (PySem.wpAt_stack fun p below => PySem.wpAt_of_wpAny ?_)
 wp_walk
 refine PySem.wpAt_of_wpAny ?_
 rw [F.owner]
 repeat (first | with_reducible refine wpAny_madeHere_exc F.canon hC ?_ | with_reducible refine wpAny_loadPart_at hC ?_ | (with_reducible refine wpAny_isSubtype_exc hC ?_; first | rw [hcB] | rw [hcA] | rw [hcN]) | wp_step)
 show R _ _
 rw [Heap.size_push]
 exact hq
theorem xc_type_call {K : Frag} {fI : Addr} (hb : excTail bm = true) {rest : List Value} {Q : Fin → Shared → Prop} (X : K.In h)
  (hC : h.get? C = some (excClassObj nm q C N bs bm hdct sn sub ab col dd k0 k1 k2 k3 k5 "Exception.__new__")) (hi : findIn K (.ref C) "__init__" = some (some (.ref fI))) (hf : typeIn K (.ref fI) = some (.type "function"))
  (hq : ∀ h' e, Heap.MadeExcOf h h' e (.ref C) rest → h.objs.size ≤ e →
   wpAny (model prog w) A (call (.ref fI) (.ref e :: rest)) (fun r s' => r = .none ∧ Q (.done (.ret (.ref e))) s') E ⟨h', g, d, t, os⟩) (hrest : rest.length ≤ sizeLine) :
  wpAny (model prog w) A (Builtin.«type.__call__» ⟨.ref C :: rest, []⟩) Q E ⟨h, g, d, t, os⟩ := by
 have F := PySem.F.excBase_Exception
 repeat (first | with_reducible refine wpAny_loadPart_at hC ?_ | with_reducible refine wpAny_madeBy_exc hC ?_ | wp_step)
 have hb' := hb
 unfold excTail at hb'
 simp only [Bool.and_eq_true, Bool.not_eq_true'] at hb'
 refine codeAny_call_builtin_code (Code.quiet_builtin _ F.quiet) (wpAny_check_new_subU F hb'.1.1 OwnTail.base hC ?_)
 refine xc_new hb hC ?_ hrest
 show wpAny _ _ _ _ _ _
 have keep : ∀ b o, h.get? b = some o → ((h.push { cls := .type "tuple", data := .seq rest.toArray }).push { cls := .ref C, data := .fields #[.ref h.objs.size, .none, .none, .none, .bool false, .none] }).get? b = some o :=
  fun b o e => Heap.get?_push_of_some _ (Heap.get?_push_of_some _ e)
 have hC₁ := keep _ _ hC
 have X₁ := X.keeps keep
 have hget : ((h.push { cls := .type "tuple", data := .seq rest.toArray }).push
   { cls := .ref C, data := .fields #[.ref h.objs.size, .none, .none, .none, .bool false, .none] }).get? (h.objs.size + 1) = some
   { cls := .ref C, data := .fields #[.ref h.objs.size, .none, .none, .none, .bool false, .none] } := by heap_get
 have hcC : (Value.ref C :: bm).contains (.ref C) = true := by simp
 unfold isInstance
 repeat (first | with_reducible refine wpAny_loadPart_at hget ?_ | (with_reducible refine wpAny_isSubtype_exc hC₁ ?_; rw [hcC]) | wp_step)
 show wpAny _ _ (typeLookup (.ref C) _) _ _ _
 refine (looks_findIn X₁ hi).here ?_
 refine wpAny_holding (wpAny_bind ((bind_fn X₁ _ hf).here ?_))
 refine wpAny_bind (wpAny_mono (hq _ (h.objs.size + 1) ⟨keep, Heap.get?_none_of_le (Nat.le_succ _), h.objs.size, hget, Heap.get?_none_of_le (Nat.le_refl _), Heap.get?_push_of_some _ (Heap.get?_push_at rfl rfl)⟩ (Nat.le_succ _)) (fun r s' hr => ?_) fun _ _ x => x)
 obtain ⟨rfl, hQ⟩ := hr
 wp_walk
 exact hQ
theorem xc_make {K : Frag} {fI : Addr} (hb : excTail bm = true) {rest : List Value} {Q : Value → Shared → Prop} (X : K.In h)
  (hC : h.get? C = some (excClassObj nm q C N bs bm hdct sn sub ab col dd k0 k1 k2 k3 k5 "Exception.__new__")) (hi : findIn K (.ref C) "__init__" = some (some (.ref fI))) (hf : typeIn K (.ref fI) = some (.type "function"))
  (hq : ∀ h' e, Heap.MadeExcOf h h' e (.ref C) rest → h.objs.size ≤ e →
   wpAny (model prog w) (A.under (.builtin "type.__call__" ⟨.ref C :: rest, []⟩)) (call (.ref fI) (.ref e :: rest)) (fun r s' => r = .none ∧ Q (.ref e) s') E ⟨h', g, d, t, os⟩) (hrest : rest.length ≤ sizeLine) :
  wpAny (model prog w) A (call (.ref C) rest) Q E ⟨h, g, d, t, os⟩ := by
 have f1 := PySem.tc_lookup
 have f2 := PySem.tc_bind (.ref C)
 have hT : (⟨h, g, d, t, os⟩ : Shared).TypeIs (.ref C) "type" := ⟨_, hC, rfl⟩
 refine wpAny_call (codeAny_of_tree ?_)
 show wpAny _ _ (callAny (.ref C) _) _ _ _
 repeat (any_goals (first | assumption | with_reducible refine wpAny_loadPart_at hC ?_ | wp_step))
 refine ⟨rfl, ?_⟩
 refine codeAny_call_builtin_at (Code.quiet_builtin _ (by decide +kernel)) entry_typeCall (wpAny_check_type_call_sub hC (xc_type_call hb X hC hi hf (fun h' e hm hl => hq h' e hm hl) hrest))
theorem xc_init (hb : excTail bm = true) {e a0 : Addr} {rest : List Value} {Q : Value → Shared → Prop}
  (hC : h.get? C = some (excClassObj nm q C N bs bm hdct sn sub ab col dd k0 k1 k2 k3 k5 "Exception.__new__")) (he : h.get? e = some { cls := .ref C, data := .fields #[.ref a0, .none, .none, .none, .bool false, .none] }) (hrest : rest.length ≤ sizeLine)
  (hq : Q .none ⟨(h.push { cls := .type "tuple", data := .seq rest.toArray }).update e (Obj.mapFields (·.setIfInBounds 0 (.ref h.objs.size))), g, d, t, os⟩) :
  wpAny (model prog w) A (call (.builtin "Exception.__init__") (.ref e :: rest)) Q E ⟨h, g, d, t, os⟩ := by
 unfold excTail at hb
 simp only [Bool.and_eq_true, Bool.not_eq_true'] at hb
 have F := PySem.F.excBase_Exception
 have hcB : (Value.ref C :: bm).contains (.type "Exception") = true := by rw [List.contains_cons, hb.1.1, Bool.or_true]
 have hshort := F.noStar
 have he₁ := Heap.get?_push_of_some { cls := .type "tuple", data := .seq rest.toArray } he
 refine wpAny_call (codeAny_call_builtin F.init.plain F.initEntry ?_)
 simp only [checkBuiltinCall, F.initKind, F.initSplit, F.initRow]
 repeat (first | with_reducible refine wpAny_loadPart_at he ?_ | with_reducible refine wpAny_loadPart_at hC ?_ | (with_reducible refine wpAny_isSubtype_exc hC ?_; rw [hcB]) | wp_step)
 refine wpAny_onRaise ?_
 rw [show ∀ (a b : String) (n : Nat), Bind.check ⟨.positional, "*", "Exception", .self, [⟨"args", .varPos, false⟩]⟩ a b n (List.map (fun x => x.fst) ({ pos := Value.ref e :: rest } : Args).kw) = pure () from
  fun a b n => check_star_args _ _ _ _ _ _]
 refine wpAny_pure ?_
 wp_walk
 exact hq
end
end
section
section
variable {K : Frag} {x C P : Addr} {cd : ClassData} {name : Str} {v : Value}
open PySem.Builtin PySem.Builtin.ObjectAttr in
theorem xc_osa {o : Obj} {tk : Tok} {R : Result → Shared → Prop} (X : K.In s.heap) (hx : s.heap.get? x = some o) (hc : o.cls = .ref C) (hdn : o.dict = none) {vs : Array Value} (hdt : o.data = .fields vs)
  (hk : clsIn K C = some cd) (hm : cd.mro = [.ref C, .ref P, .type "Exception", .type "BaseException", .type "object"]) (hh : cd.hasDict = true) (ht : takerIn K C name = some none)
  (hq : ∀ h' tk' dx, (∀ b o, b ≠ x → s.heap.get? b = some o → h'.get? b = some o) → h'.get? x = some { o with dict := some dx } → R (.ok (.ret .none)) { s with heap := h', toks := tk' }) :
  codeAny (model prog w) A (.call (.builtin "object.__setattr__") ⟨[.ref x, .str name tk, v], []⟩) R s := by
 have I : InstAt s.heap x o C none := ⟨hx, hc, by unfold notCls; rw [hdt], by rw [hdn]; trivial⟩
 have SF := PySem.F.store_object
 have sub : Looks (model prog w) s.heap (isInstance (.ref x) (.type "object")) true := I.type.andThen (looks_mroIn X (by unfold mroIn; rw [hk, Option.bind_some, if_neg (by rw [hm]; simp), hm]; rfl))
 obtain ⟨h, g, d, t, os⟩ := s
 refine codeAny_call_builtin SF.slot.plain SF.entry (@check_slot (model prog w) _ _ _ "object.__setattr__" "object" "__setattr__" (.ref x) [.str name tk, v] [] _ SF.kind SF.split sub (SF.args (.ref x) (.str name tk) v) ?_)
 obtain ⟨attr, ha, hr⟩ := Option.bind_eq_some_iff.mp ht
 have hM : Looks (model prog w) h (mroOf (.ref C)) cd.mro := (looks_clsIn X hk).andThen .now
 have L3 : Looks (model prog w) h (storeTaker? attr) none := by
  cases attr with
  | none => exact .now
  | some a =>
   obtain ⟨b, hb, e⟩ := Option.map_eq_some_iff.mp hr
   refine (looks_takesIn X hb).andThen ?_
   cases b
   ·exact .now
   ·cases e
 rw [osa_eq, refuse_eq]
 refine wpAny_bind (wpAny_bind (I.type.here (wpAny_bind (hM.here ?_))))
 rw [hm, refuseLoop_ref, refuseLoop_ref, PySem.F.store_Exception.passes]
 refine wpAny_pure (wpAny_bind (I.type.here (wpAny_bind ((looks_findIn X ha).here (wpAny_bind (L3.here ?_))))))
 obtain ⟨oc, od, odt, osl⟩ := o
 dsimp only at hc hdn hdt
 subst hc hdn hdt
 have hxs : x ≠ h.objs.size := Nat.ne_of_lt (Heap.lt_size hx)
 have hx₁ : (h.push { cls := .type "dict", data := .dict #[] }).get? x = _ := Heap.get?_push_of_some _ hx
 refine wpAny_bind (wpAny_pure (wpAny_bind (wpAny_bind (wpAny_loadPart hx (wpAny_bind ((looks_clsIn X hk).here ?_))))))
 rw [hh]
 simp only [Bool.not_true, Bool.false_eq_true, if_false, typeHasDict]
 refine wpAny_bind (wpAny_alloc (wpAny_bind (wpAny_update hx₁ (wpAny_pure ?_))))
 have hgd : ((h.push { cls := .type "dict", data := .dict #[] }).update x fun o => { cls := o.cls, dict := some h.objs.size, data := o.data, slots := o.slots }).get? h.objs.size
   = some { cls := .type "dict", data := .dict #[] } := (Heap.get?_update_ne _ _ _ _ hxs.symm).trans (Heap.get?_push_at rfl rfl)
 have hnd : ((h.push { cls := .type "dict", data := .dict #[] }).update x fun o => { cls := o.cls, dict := some h.objs.size, data := o.data, slots := o.slots }).Ns h.objs.size (fun _ => none) :=
  ⟨_, #[], _, hgd, rfl, fun e he => absurd he (by simp), fun _ => rfl⟩
 refine wpAny_bind (wpAny_pure (wpAny_bind (wpAny_nsSet1 (Heap.Ns1.of_empty hnd) fun h' hn' hs' => ?_)))
 obtain ⟨oD, esD, epD, hoD, hdD, hcD⟩ := hn'.count (Within.cons name v Within.nil)
 refine wpAny_bind (wpAny_lookBehind hoD (by rw [hdD]; exact pastItsLine_dict (Nat.le_trans hcD (by rw [length_cons, length_nil, sizeLine_eq]; omega))) (wpAny_pure ?_))
 refine hq h' _ h.objs.size (fun b ob hbx hb => ?_) ?_
 ·exact (hs'.2 b (Nat.ne_of_lt (Heap.lt_size hb))).trans ((Heap.get?_update_ne _ _ _ _ hbx).trans (Heap.get?_push_of_some _ hb))
 ·exact (hs'.2 x hxs).trans (Heap.get?_update_self _ hx₁ rfl)
theorem xc_set {o : Obj} {Q : Unit → Shared → Prop} (X : K.In s.heap) (hx : s.heap.get? x = some o) (hc : o.cls = .ref C) (hdn : o.dict = none) {vs : Array Value} (hdt : o.data = .fields vs)
  (hk : clsIn K C = some cd) (hm : cd.mro = [.ref C, .ref P, .type "Exception", .type "BaseException", .type "object"]) (hh : cd.hasDict = true)
  (hs : findIn K (.ref C) "__setattr__" = some (some (.builtin "object.__setattr__"))) (ht : takerIn K C name = some none)
  (hq : ∀ h' tk' dx, (∀ b o, b ≠ x → s.heap.get? b = some o → h'.get? b = some o) → h'.get? x = some { o with dict := some dx } → Q () { s with heap := h', toks := tk' }) :
  wpAny (model prog w) A (setAttr (.ref x) name v) Q E s :=
 set_plain X (show InstAt s.heap x o C none from ⟨hx, hc, by unfold notCls; rw [hdt], by rw [hdn]; trivial⟩) hs (xc_osa (s := { s with toks := s.toks + 1 }) X hx hc hdn hdt hk hm hh ht fun h' tk' dx k1 k2 => hq h' tk' dx k1 k2)
end
end
section
structure ExcC (K : Frag) (C fI : Addr) : Prop where
 obj : ∃ nm q N bs P sn sub ab col dd k0 k1 k2 k3 k5, K.lookup C = some (excClassObj nm q C N bs [.ref P, .type "Exception", .type "BaseException", .type "object"] true sn sub ab col dd k0 k1 k2 k3 k5 "Exception.__new__")
 init : findIn K (.ref C) "__init__" = some (some (.ref fI))
 fn : typeIn K (.ref fI) = some (.type "function")
 sa : findIn K (.ref C) "__setattr__" = some (some (.builtin "object.__setattr__"))
 why : takerIn K C "why" = some none
 keep : keepIn K (.ref C) = true
theorem exc_tail (P : Addr) : excTail [.ref P, .type "Exception", .type "BaseException", .type "object"] = true := rfl
theorem exc_base (P : Addr) : ([.ref P, .type "Exception", .type "BaseException", .type "object"] : List Value).contains (.type "BaseException") = true := rfl
theorem mid_perm {α : Type} {x : α} {cs ex q fl l : List α} (P : fl.Perm (q ++ l)) : (x :: (cs ++ (ex ++ fl))).Perm (l ++ (x :: (cs ++ (ex ++ q)))) := by
 have h := List.Perm.append_left (x :: (cs ++ ex)) P
 rw [← append_assoc] at h
 have h2 := h.trans perm_append_comm
 simpa using h2
abbrev excO (C : Addr) (dc : Option Addr) (a0 : Addr) : Obj := { cls := .ref C, dict := dc, data := .fields #[.ref a0, .none, .none, .none, .bool false, .none], slots := #[] }
section
variable {c : Str} {e : Addr}
variable {F₁ F₂ : (V → DS → Prop) → DS → Prop} {L : (List V → DS → Prop) → DS → Prop}
theorem xc_method {K : Frag} {pl : Sem Bool} {Q : Value × List Value → Shared → Prop} (X : K.In s.heap) (he : findCls K (.type "Exception") (.type "type") "__init__" = some (.val (.builtin "Exception.__init__"))) (hs : subIn K (.type "type") (.type "type") = some true)
  (hq : Q (.builtin "Exception.__init__", []) { s with toks := s.toks + 1 }) : wpAny (model G.prog G.w) A (getMethod (.type "Exception") "__init__" pl) Q E s := by
 have hstub : opaqueClassAbove (.type "Exception") = pure none := by kernel_rfl
 have L0 : Looks (model G.prog G.w) s.heap (typeOf (.type "Exception")) (.type "type") := Looks.of_pure (by kernel_rfl)
 have hg : findIn K (.type "type") "__getattribute__" = some (some (.builtin "type.__getattribute__")) := type_tga
 unfold getMethod specialOf
 refine wpAny_bind (wpAny_bind (L0.here ((looks_findIn X hg).here ?_)))
 dsimp only
 rw [if_pos canon_tga]
 refine wpAny_bind (wpAny_mono (Q := fun v => Q (v, [])) (E := E) ?_ (fun _ _ z => wpAny_pure z) fun _ _ z => z)
 refine cls_open X (Looks.of_pure hstub) L0 hg (looks_hook X (r := none) (by rfl)) hs he (wpAny_pure (by show wpAny _ _ (handedOut _) _ _ _; rw [handedOut_of (by rfl)]; exact wpAny_pure hq))
theorem ExcC.at_e {K : Frag} {Ca fI : Addr} {h : Heap} {P : Prop} (x : ExcC K Ca fI) (X : K.In h)
  (k : ∀ nm q N bs Pa sn sub ab col dd k0 k1 k2 k3 k5, h.get? Ca = some (excClassObj nm q Ca N bs [.ref Pa, .type "Exception", .type "BaseException", .type "object"] true sn sub ab col dd k0 k1 k2 k3 k5 "Exception.__new__") → P) : P := by
 obtain ⟨nm, q, Nn, bs, Pa, sn, sub, ab, col, dd, k0, k1, k2, k3, k5, e⟩ := x.obj
 exact k nm q Nn bs Pa sn sub ab col dd k0 k1 k2 k3 k5 (X _ _ e)
theorem ExcC.clsIn {K : Frag} {Ca fI : Addr} (x : ExcC K Ca fI) : ∃ (P : Addr) (c : _), PySem.W.clsIn K Ca = some c ∧ c.mro = [.ref Ca, .ref P, .type "Exception", .type "BaseException", .type "object"] ∧ c.hasDict = true := by
 obtain ⟨nm, q, Nn, bs, Pa, sn, sub, ab, col, dd, k0, k1, k2, k3, k5, e⟩ := x.obj
 exact ⟨Pa, _, by unfold PySem.W.clsIn; rw [e], rfl, rfl⟩
@[elab_as_elim] theorem setExc_e {j : Nat} {b : Bool} {o : Value} {P : Value → Prop} (C : CxOk G cx) (R : Rel G cx ex g ad st h) (ro : VR G g ad (.cel j) o) (hj : st.mu[j]? = some (.exc c b))
  (k : ∀ a Ca a0 dc, nsIn G.K mainGlobals c = some (some (.ref Ca)) → (b = false → dc = none) → h.get? a = some (excO Ca dc a0) → ExcIn G cx ex c a h →
   (∀ h' b' dc' a0', (∀ x o, x ≠ a → h.get? x = some o → h'.get? x = some o) → h'.get? a = some (excO Ca dc' a0') → (b' = false → dc' = none) → Rel G cx ex g ad { st with mu := st.mu.set j (.exc c b') } h') → P (.ref a)) : P o :=
 ro.cel_e fun a ha => by
  refine R.lend_e hj fun a' l h1 mr R₂ => ?_
  have e := Option.some.inj (h1.symm.trans ha)
  subst e
  obtain ⟨Ca, a0, dc, e, e1, e2⟩ := mr.inv
  subst e
  have hC : h.get? a' = some (excO Ca dc a0) := R₂.exAt (.head _)
  refine k a' Ca a0 dc e1 e2 hC (R₂.e fun oL cs fp I L MO => ⟨I.baseStays C, I.baseOut C (lv_ex (p := (a', excO Ca dc a0)) (.head _)), Exists.elim L.ns fun m hm => I.framesL C hm.1, fun b o hb e => (I.keep b o e (C.frD b hb)).2, fun p hp hn => Exists.elim hn fun m hn => ⟨m, hn.ns (I.cur _ (lv_ex (.tail _ hp)))⟩, Ca, e1, .inl ⟨_, _, hC, rfl, rfl, rfl⟩⟩)
   fun h' b' dc' a0' hk ha' hb' => ?_
  exact (Rel.swap (own := [(a', excO Ca dc a0)]) (own' := [(a', excO Ca dc' a0')]) C R₂ (List.Sublist.refl _) (fun x o hx e => hk x o (fun z => hx (z ▸ .head _)) e) (fun p hp => mem_singleton.mp hp ▸ ha')).backAt hj h1 (.exc e1 hb')
set_option genCtorIdx true in
inductive Gl where
 | int (i : Int)
 | fn (f : Addr)
 | cls (fI : Addr)
 | exc (fI : Addr)
 | no
structure Tabs where
 gl : Str → Gl
 mt : Str → Str → Option Addr
 fd : Str → Str → Bool
 so : Str → Str → Bool
structure TabsOk (K : Frag) (T : Tabs) : Prop where
 int : ∀ x i, T.gl x = .int i → ∃ t, nsIn K mainGlobals x = some (some (.int i t))
 fn : ∀ x f, T.gl x = .fn f → nsIn K mainGlobals x = some (some (.ref f)) ∧ keepIn K (.ref f) = true
 cls : ∀ x fI, T.gl x = .cls fI → ∃ Ca, nsIn K mainGlobals x = some (some (.ref Ca)) ∧ makesIn K Ca = true ∧ findIn K (.ref Ca) "__init__" = some (some (.ref fI)) ∧ typeIn K (.ref fI) = some (.type "function") ∧ keepIn K (.ref Ca) = true
 exc : ∀ x fI, T.gl x = .exc fI → ∃ Ca, nsIn K mainGlobals x = some (some (.ref Ca)) ∧ ExcC K Ca fI ∧ ktsIn K Ca "BaseException" = true
 bi : ∀ x b, T.gl x = .no → biOf x = some b → nsIn K mainGlobals x = some none
 ty : ∀ x t, T.gl x = .no → tyOf x = some t → nsIn K mainGlobals x = some none
 enum : nsIn K mainGlobals "enumerate" = some none
 excN : nsIn K mainGlobals "Exception" = some none
 excB : bootBuiltins "Exception" = some (.type "Exception")
 excI : findCls K (.type "Exception") (.type "type") "__init__" = some (.val (.builtin "Exception.__init__"))
 excS : subIn K (.type "type") (.type "type") = some true
 mt : ∀ c x f, T.mt c x = some f → methodOk K c x = some f
 fd : ∀ c x, T.fd c x = true → fieldOk K c x = true
 so : ∀ c x, T.so c x = true → setOk K c x = true
noncomputable def celP (v : V) (Q : Nat → Prop) : Prop := match v with
 | .cel j => Q j
 | _ => False
noncomputable def excM (m : M) (Q : Str → Bool → Prop) : Prop := match m with
 | .exc c b => Q c b
 | _ => False
noncomputable def isExc (T : Tabs) (c : Str) (P : Prop) : Prop := match T.gl c with
 | .exc _ => P
 | _ => False
theorem celP_i {v : V} {Q : Nat → Prop} (h : celP v Q) : ∃ j, v = .cel j ∧ Q j := by cases v <;> first | exact ⟨_, rfl, h⟩ | exact False.elim h
theorem excM_i {m : M} {Q : Str → Bool → Prop} (h : excM m Q) : ∃ c b, m = .exc c b ∧ Q c b := by cases m <;> first | exact ⟨_, _, rfl, h⟩ | exact False.elim h
theorem isExc_i {K : Frag} {T : Tabs} {c : Str} {P R : Prop} (hT : TabsOk K T) (h : isExc T c P) (k : ∀ Ca fI, nsIn K mainGlobals c = some (some (.ref Ca)) → ExcC K Ca fI → ktsIn K Ca "BaseException" = true → P → R) : R := by
 unfold isExc at h
 cases q : T.gl c with
 | exc fI => rw [q] at h; obtain ⟨Ca, a, b, d⟩ := hT.exc _ _ q; exact k Ca fI a b d h
 | _ => rw [q] at h; exact False.elim h
theorem set_self {α : Type} {l : List α} {j : Nat} {x : α} (h : l[j]? = some x) : l.set j x = l := by
 obtain ⟨hj, e⟩ := List.getElem?_eq_some_iff.mp h
 rw [← e]
 exact List.set_getElem_self hj
noncomputable def excInitT (T : Tabs) (vs : List V) (st : DS) (Q : V → DS → Prop) : Prop := twoP vs fun o _ => celP o fun j => oElim st.mu[j]? fun m => excM m fun c b => chk (!b) (isExc T c (Q .none st))
theorem s_excInit {T : Tabs} {vals : List Value} {Q : V → DS → Prop} (C : CxOk G cx) (hT : TabsOk G.K T) (rs : VRs G g ad vs vals) (h : excInitT T vs st Q) : WV G cx A ex (call (.builtin "Exception.__init__") vals) Q X g ad st := by
 refine two_e rs h fun o w va vb ra rb h => ?_
 obtain ⟨j, e, h⟩ := celP_i h
 subst e
 refine oE_e h fun m hj h => ?_
 obtain ⟨c, b, e, h⟩ := excM_i h
 subst e
 have h1 := chk_not h
 refine isExc_i hT h1.2 fun Ca fI e3 e4 _ q => fun s Q₁ E₁ R hg hq _ => setExc_e C R ra hj fun a Ca' a0 dc b2 b3 b4 _ fin => ?_
 have eC : Ca' = Ca := Value.ref.inj (Option.some.inj (Option.some.inj (b2.symm.trans e3)))
 have ed := b3 h1.1
 subst eC ed
 refine e4.at_e (R.kin C) fun nm q' Nn bs P sn sub ab col dd k0 k1 k2 k3 k5 hC => ?_
 obtain ⟨hh, gs, d, t, os⟩ := s
 refine xc_init (exc_tail P) hC b4 (by rw [List.length_singleton, sizeLine_eq]; decide) ?_
 have R₂ := fin (hh.push { cls := .type "tuple", data := .seq [vb].toArray } |>.update a (Obj.mapFields (·.setIfInBounds 0 (.ref hh.objs.size)))) b none hh.objs.size (fun x o hx e => by
   rw [Heap.get?_update_other _ _ (Ne.symm hx)]; exact Heap.get?_push_of_some _ e) (by
   rw [Heap.get?_update_self _ (Heap.get?_push_of_some _ b4) rfl]; rfl) (fun _ => rfl)
 rw [set_self hj] at R₂
 exact hq _ g ad st _ (Sub.refl _) (prefix_refl _) ⟨.none, .none, q⟩ R₂ hg rfl
theorem r_ExcInit {T : Tabs} {np apos pos : Pos} {es : List Expr} (C : CxOk G cx) (hT : TabsOk G.K T) (hk : nc.sc.names.lookup ("Exception" : Str) = some .globalImplicit)
  (hf : methForm (.Name "Exception" np) apos pos es = true) (h1 : Sl G cx A ex X nc env (spliced (backTo pos (starEach es env))) L) :
  Sd G cx A ex X nc env (eval (.Call (.Attribute (.Name "Exception" np) "__init__" apos) es [] pos) env) (fun Q st => L (fun vs st => excInitT T vs st Q) st) := fun Q g ad st N h s Q' E' R hg hq he => by
 obtain ⟨pl, e⟩ := eval_meth (name := "__init__") (env := env) hf
 rw [e]
 refine wpAny_bind (name_boot C N hk hT.excN hT.excB (by decide) (by decide) R (wpAny_bind (wpAny_standAt (wpAny_bind (wpAny_holding (xc_method (R.kin C) hT.excI hT.excS ?_))))))
 exact s_callWith (first := []) C (CallOk.builtin _) (methForm_star hf) h1 N h (fun vals vs g' ad' st' S p N' rs q => s_excInit C hT rs q) { s with toks := s.toks + 1 } Q' E' R hg hq he
noncomputable def attrSetM (T : Tabs) (m : M) (j : Nat) (v : V) (x : Str) (N : DS → Prop) (st : DS) : Prop := match m with
 | .inst c fs => chk (!oneBarr fs && T.so c x && !v.isCel && !v.isBarr && Nat.ble fs.length 500) (N { st with mu := st.mu.set j (.inst c (fput fs x v)) })
 | .exc c b => chk (!b) (chk (x == ("why" : Str)) (isExc T c (N { st with mu := st.mu.set j (.exc c true) })))
 | _ => False
noncomputable def attrSetT (T : Tabs) (o v : V) (x : Str) (N : DS → Prop) (st : DS) : Prop := celP o fun j => oElim st.mu[j]? fun m => attrSetM T m j v x N st
theorem s_setAttrT {T : Tabs} {o val : Value} {ov v : V} {x : Str} {Q : Unit → Shared → Prop} (C : CxOk G cx) (hT : TabsOk G.K T) (R : Rel G cx ex g ad st s.heap) (ro : VR G g ad ov o) (rv : VR G g ad v val) (h : attrSetT T ov v x N st)
  (k : ∀ st' h' tk, N st' → Rel G cx ex g ad st' h' → Q () { s with heap := h', toks := tk }) : wpAny (model G.prog G.w) A (setAttr o x val) Q E s := by
 obtain ⟨j, e, h⟩ := celP_i h
 subst e
 refine oE_e h fun m hj h => ?_
 cases m with
 | inst c fs =>
  have h1 := chk_elim h
  have a := Bool.and_eq_true_iff.mp h1.1
  have b := Bool.and_eq_true_iff.mp a.1
  have c := Bool.and_eq_true_iff.mp b.1
  have d := Bool.and_eq_true_iff.mp c.1
  exact s_setAttr C ro rv R hj (Bool.not_eq_eq_eq_not.mp d.1) (hT.so _ _ d.2) ⟨Bool.not_eq_eq_eq_not.mp c.2, Bool.not_eq_eq_eq_not.mp b.2⟩ (Nat.le_of_ble_eq_true a.2) fun h' tk R₃ => k _ h' tk h1.2 R₃
 | exc c b =>
  have h1 := chk_not h
  have h2 := chk_elim h1.2
  have ex := eq_of_beq h2.1
  subst ex
  refine isExc_i hT h2.2 fun Ca fI e3 e4 _ q => setExc_e (P := fun o => wpAny _ _ (setAttr o "why" val) Q E s) C R ro hj fun a Ca' a0 dc b2 b3 b4 _ fin => ?_
  have eC : Ca' = Ca := Value.ref.inj (Option.some.inj (Option.some.inj (b2.symm.trans e3)))
  have ed := b3 h1.1
  subst eC ed
  obtain ⟨Pa, cl, q1, q2, q3⟩ := e4.clsIn
  exact xc_set (R.kin C) b4 rfl rfl rfl q1 q2 q3 e4.sa e4.why fun h' tk' dx q1 q2 => k _ h' tk' q (fin h' true (some dx) a0 q1 q2 fun z => nomatch z)
 | _ => exact False.elim h
theorem ws_AttrT {T : Tabs} {o e : Expr} {x : Str} {ap pos : Pos} (C : CxOk G cx) (hT : TabsOk G.K T) (hs : isComp e = false) (h1 : Sd G cx A ex X ⟨cx.envF.scope, none⟩ cx.envF (eval e cx.envF) F₁) (h2 : Sd G cx A ex X ⟨cx.envF.scope, none⟩ cx.envF (eval o cx.envF) F₂)
  (h : F₁ (fun v st => F₂ (fun ov st => attrSetT T ov v x N st) st) st) : WS G cx A ex (exec (.Assign [.Attribute o x ap] e pos) cx.envF) N Rt X g ad st := fun s Q' E' R hg kn kr kl ke =>
 plainObj_wpAny_Assign_Attribute (h1 _ g ad st .fn h s _ _ R hg (fun a g' ad' st' s' S p z R' hg' ho => Exists.elim z fun v z =>
  h2 _ g' ad' st' .fn z.2 s' _ _ R' hg' (fun b g₂ ad₂ st₂ s₂ S₂ p₂ z₂ R₂ hg₂ ho₂ => Exists.elim z₂ fun ov z₂ =>
   s_setAttrT C hT R₂ z₂.1 (z.1.mono S₂ p₂) z₂.2 fun st' h' tk q R₃ => kn g₂ ad₂ _ _ (S.trans S₂) (p.trans p₂) q R₃ hg₂ (ho₂.trans ho))
   fun c e s' x y hg₂ ho₂ => ke c e s' x y hg₂ (ho₂.trans ho)) ke) (swaps_plain hs _ _ _)
end
end
section
noncomputable def makeX (φ : Ctr) (c : Str) (vs : List V) (st : DS) (Q : V → DS → Prop) (X : Str → Prop) : Prop :=
 callV φ (.cel st.mu.length :: vs) { st with mu := st.mu ++ [.exc c false] } (fun v st' => noneK v (Q (.cel st.mu.length) st')) X
section
variable {c : Str} {e : Addr}
variable {F₁ F₂ : (V → DS → Prop) → DS → Prop} {L : (List V → DS → Prop) → DS → Prop}
theorem s_makeX {Ca fI : Addr} {φ : Ctr} {vals : List Value} {Q : V → DS → Prop} (C : CxOk G cx) (O : AOk cx A (r + 1)) (hx : nsIn G.K mainGlobals c = some (some (.ref Ca))) (hE : ExcC G.K Ca fI)
  (S : SoundF G r fI φ) (rs : VRs G g ad vs vals) (hl : vs.length ≤ 1) (hv : makeX φ c vs st Q X) : WV G cx A ex (call (.ref Ca) vals) Q X g ad st := by
 intro s Q' E' R hg k he
 obtain ⟨hh, gs, d, t, os⟩ := s
 refine hE.at_e (R.kin C) fun nm q' Nn bs P sn sub ab col dd k0 k1 k2 k3 k5 hC => ?_
 refine xc_make (exc_tail P) (R.kin C) hC hE.init hE.fn (fun h' e hm hle => ?_) (Nat.le_trans (rs.len ▸ hl) (by rw [sizeLine_eq]; decide))
 obtain ⟨ta, t1, _, _⟩ := hm.there
 have R₁ := R.newEx C hm.keeps hle t1
 have R₂ := Rel.exMu (m := .exc c false) (a := e) (own := [(e, excO Ca none ta)]) R₁ (.exc hx fun _ => rfl)
 have hself : VR G g (ad ++ [e]) (.cel st.mu.length) (.ref e) := .cel (last_at R.lad)
 refine wpAny_call (s_codeF (s := ⟨h', gs, d, t, os⟩) (Q' := fun v s' => v = .none ∧ Q' (.ref e) s') (E' := E') C O S (.cons hself (rs.mono (Sub.refl _) ⟨_, rfl⟩)) hv R₂ hg (fun v val g' st' s' S' rv q R' hg' ho => ?_) he (tc_under A _))
 obtain ⟨rfl, q⟩ := noneK_elim q
 obtain rfl := rv.inv
 exact ⟨rfl, k _ g' _ st' s' S' ⟨_, rfl⟩ ⟨_, hself.mono S' (prefix_refl _), q⟩ R' hg' ho⟩
theorem r_CallX {x : Str} {np pos : Pos} {Ca fI : Addr} {φ : Ctr} {es : List Expr} (C : CxOk G cx) (O : AOk cx A (r + 1)) (hk : nc.sc.names.lookup x = some .globalImplicit) (hd : (x == ("__debug__" : Str)) = false) (hx : nsIn G.K mainGlobals x = some (some (.ref Ca))) (hE : ExcC G.K Ca fI) (S : SoundF G r fI φ) (hn : noStar es = true)
  (h1 : Sl G cx A ex X nc env (spliced (backTo pos (starEach es env))) L) : Sd G cx A ex X nc env (eval (.Call (.Name x np) es [] pos) env) (fun Q st => L (fun vs st => chk (Nat.ble vs.length 1) (makeX φ x vs st Q X)) st) := fun Q g ad st N h s Q' E' R hg hq he => by
 have T := R.top C
 rw [eval_Call_fn (func := .Name x np) (by intro o n p e; cases e)]
 refine wpAny_bind (Name_function_global (N.kind C) (by rw [← hk, N.sc]; rfl) (loadGlobal_global (env := env) (by rw [N.glob C]; exact T.g) (mg_of (R.kin C) T.g hx) ?_) hd)
 exact s_callWith C (CallOk.keep hE.keep) hn h1 N h (fun vals vs g' ad' st' S' p N' rs q => s_makeX C O hx hE S rs (chk_le q).1 (chk_le q).2) s Q' E' R hg hq he
noncomputable def raiseT (T : Tabs) (v : V) (X : Str → Prop) (st : DS) : Prop := celP v fun j => oElim st.mu[j]? fun m => excM m fun c _ => isExc T c (X c)
theorem ws_Raise {T : Tabs} {e : Expr} {pos : Pos} (C : CxOk G cx) (O : AOk cx A r) (hT : TabsOk G.K T) (h1 : Sd G cx A ex X ⟨cx.envF.scope, none⟩ cx.envF (eval e cx.envF) F₁)
  (h : F₁ (fun v st => raiseT T v X st) st) : WS G cx A ex (exec (.Raise (some e) none pos) cx.envF) N Rt X g ad st := fun s Q' E' R hg kn kr kl ke => by
 rw [arm_exec_Raise]
 refine wpAny_bind (wpAny_standAt ?_)
 show wpAny _ _ (raiseStmt cx.envF (some (eval e cx.envF >>= fun v => standAt pos >>= fun _ => pure v)) none) _ _ _
 unfold raiseStmt
 refine wpAny_bind (wpAny_bind (h1 _ g ad st .fn h s _ _ R hg (fun a g' ad' st' s' S p z R' hg' ho => Exists.elim z fun v z => ?_) ke))
 obtain ⟨j, e, h⟩ := celP_i z.2
 subst e
 refine oE_e h fun m hj h => ?_
 obtain ⟨c, b, e, h⟩ := excM_i h
 subst e
 refine isExc_i hT h fun Ca fI e3 e4 _ q => ?_
 refine wpAny_bind (wpAny_standAt (wpAny_pure ?_))
 refine setExc_e C R' z.1 hj fun a Ca' a0 dc b2 b3 b4 b5 _ => ?_
 have eC : Ca' = Ca := Value.ref.inj (Option.some.inj (Option.some.inj (b2.symm.trans e3)))
 subst eC
 refine e4.at_e (R'.kin C) fun nm q' Nn bs P sn sub ab col dd k0 k1 k2 k3 k5 hC => ?_
 have hE := ke c a s' q b5 hg' ho
 clear h1 h ke kn kr kl b2 b3 b5 hT e4 R' R z hj
 obtain ⟨hp, gs, d, tk, os⟩ := s'
 have hcB : (Value.ref Ca' :: [.ref P, .type "Exception", .type "BaseException", .type "object"]).contains (.type "BaseException") = true := by rw [List.contains_cons, exc_base, Bool.or_true]
 repeat (first | with_reducible refine wpAny_loadPart_at b4 ?_ | with_reducible refine wpAny_loadPart_at hC ?_ | (with_reducible refine wpAny_isSubtype_exc hC ?_; rw [hcB]) | wp_step)
 exact wpAny_raiseNew_none O.handled hE
end
end
abbrev QV := V → DS → Prop
abbrev QB := Bool → DS → Prop
noncomputable def evls (ev : Expr → QV → DS → Prop) (es : List Expr) : (List V → DS → Prop) → DS → Prop :=
 List.rec (motive := fun _ => (List V → DS → Prop) → DS → Prop) (fun Q st => Q [] st) (fun e _ k Q st => ev e (fun v st => k (fun vs st => Q (v :: vs) st) st) st) es
noncomputable def evAnd (ev : Expr → QV → DS → Prop) (es : List Expr) : QV → DS → Prop :=
 List.rec (motive := fun _ => QV → DS → Prop) (fun _ _ => False) (fun e es k Q st => ev e (fun v st => brS es.isEmpty (Q v st) (tstT (fun c st => brT c (k Q st) (Q v st)) v st)) st) es
noncomputable def evOr (ev : Expr → QV → DS → Prop) (es : List Expr) : QV → DS → Prop :=
 List.rec (motive := fun _ => QV → DS → Prop) (fun _ _ => False) (fun e es k Q st => ev e (fun v st => brS es.isEmpty (Q v st) (tstT (fun c st => brT c (Q v st) (k Q st)) v st)) st) es
noncomputable def tsAnd (evb : Expr → QB → DS → Prop) (es : List Expr) : QB → DS → Prop :=
 List.rec (motive := fun _ => QB → DS → Prop) (fun Q st => Q true st) (fun e _ k Q st => evb e (fun c st => brT c (k Q st) (Q false st)) st) es
noncomputable def tsOr (evb : Expr → QB → DS → Prop) (es : List Expr) : QB → DS → Prop :=
 List.rec (motive := fun _ => QB → DS → Prop) (fun Q st => Q false st) (fun e _ k Q st => evb e (fun c st => brT c (Q true st) (k Q st)) st) es
noncomputable def evpart (ev : Expr → QV → DS → Prop) (o : Option Expr) (Q : QV) (st : DS) : Prop := match o with
 | none => Q .none st
 | some e => ev e Q st
noncomputable def isBM (x : Str) : Bool := x == "join" || x == "index" || x == "append" || x == "extend"
noncomputable def isExcName (e : Expr) : Bool := match e with
 | .Name x _ => x == "Exception"
 | _ => false
noncomputable def isGlob (nc : NC) (x : Str) : Bool := nc.sc.names.lookup x == some .globalImplicit && !(x == ("__debug__" : Str))
noncomputable def glT (T : Tabs) (x : Str) (Q : V → Prop) : Prop := match T.gl x with
 | .int i => Q (.int i)
 | .no => oElim (tyOf x) fun t => Q (.ty t)
 | _ => False
noncomputable def nameT (T : Tabs) (nc : NC) (x : Str) (Q : QV) (st : DS) : Prop := match nc.sc.names.lookup x with
 | some .globalImplicit => glT T x fun v => Q v st
 | _ => oElim (nameV nc st x) fun v => Q v st
noncomputable def evCallN (T : Tabs) (Γ : Addr → Ctr) (X : Str → Prop) (x : Str) (L : (List V → DS → Prop) → DS → Prop) (Q : QV) (st : DS) : Prop := match T.gl x with
 | .fn f => L (fun vs st => callV (Γ f) vs st Q X) st
 | .cls fI => L (fun vs st => makeV (Γ fI) x vs st Q X) st
 | .exc fI => L (fun vs st => chk (Nat.ble vs.length 1) (makeX (Γ fI) x vs st Q X)) st
 | .int _ => False
 | .no => oElim (biOf x) fun b => L (fun vs st => biT b vs st.mu fun v => Q v st) st
noncomputable def evMeth (T : Tabs) (Γ : Addr → Ctr) (X : Str → Prop) (x : Str) (v : V) (L : (List V → DS → Prop) → DS → Prop) (Q : QV) (st : DS) : Prop :=
 brS (isBM x) (recOk x v st.mu ∧ L (fun vs st => bmT x v vs st Q) st) (methT T.mt Γ X x v L Q st)
noncomputable def nameP (e : Expr) (K : Str → Prop) : Prop := match e with
 | .Name x _ => K x
 | _ => False
noncomputable def oneL {α : Type} (l : List α) (K : α → Prop) : Prop := match l with
 | [x] => K x
 | _ => False
noncomputable def twoL {α : Type} (l : List α) (K : α → α → Prop) : Prop := match l with
 | [x, y] => K x y
 | _ => False
noncomputable def genP (l : List Comprehension) (K : Expr → Expr → Prop) : Prop := oneL l fun c => match c with
 | ⟨t, i, ifs, a⟩ => chk (ifs.isEmpty && a == 0) (K t i)
noncomputable def cmpP (ops : List CmpOp) (rs : List Expr) (one : CmpOp → Expr → Prop) (two : CmpOp → CmpOp → Expr → Expr → Prop) : Prop := match ops with
 | [op] => oneL rs fun r => one op r
 | [op, op'] => twoL rs fun r r' => two op op' r r'
 | _ => False
noncomputable def callP (e : Expr) (K : Str → Expr → Prop) : Prop := match e with
 | .Call f es kw _ => nameP f fun x => oneL es fun a => chk kw.isEmpty (K x a)
 | _ => False
noncomputable def cNone (c : Const) (P : Prop) : Prop := match c with
 | .none => P
 | _ => False
noncomputable def eNone (e : Expr) (P : Prop) : Prop := match e with
 | .Constant c _ _ => cNone c P
 | _ => False
noncomputable def sNone (s : Stmt) (P : Prop) : Prop := match s with
 | .Return e _ => oElim e fun e => eNone e P
 | _ => False
noncomputable def tryP (hs : List ExceptHandler) (K : Str → Prop) : Prop := oneL hs fun h => match h with
 | .ExceptHandler t n b _ => oElim t fun t => nameP t fun x => chk n.isNone (oneL b fun s => sNone s (K x))
noncomputable def evIter (ev : Expr → QV → DS → Prop) (nc : NC) (T : Tabs) (target iter : Expr) (B : List (List (Str × V)) → DS → Prop) (st : DS) : Prop := match target with
 | .Name x _ => ev iter (fun v st => oElim (elemsOf v) fun xs => chk (rngB v) (B (xs.map fun y => [(x, y)]) st)) st
 | .Tuple ts _ _ => twoL ts fun x y => nameP x fun a => nameP y fun b => callP iter fun f e =>
   chk (f == "enumerate" && a != b && noStar [e] && nc.sc.names.lookup ("enumerate" : Str) == some .globalImplicit) <| ev e (fun v st => enumT v fun xs => B (enumF a b 0 xs) st) st
 | _ => False
noncomputable def evStep (T : Tabs) (Γ : Addr → Ctr) (X : Str → Prop) (ev : NC → Expr → QV → DS → Prop) (evb : NC → Expr → QB → DS → Prop) (nc : NC) (e : Expr) (Q : QV) (st : DS) : Prop := match e with
 | .Constant c _ _ => (match c with
   | .int i => Q (.int i) st
   | .str s => Q (.str s) st
   | .none => Q .none st
   | .bool b => Q (.bool b) st
   | _ => False)
 | .Name x _ => chk (!(x == ("__debug__" : Str))) (nameT T nc x Q st)
 | .BinOp l op r _ => ev nc l (fun a st => ev nc r (fun b st => binT op a b st.mu fun v => Q v st) st) st
 | .Compare l ops rs _ => cmpP ops rs (fun op r => chk (!behindInMarks op r) <| ev nc l (fun a st => ev nc r (fun b st => cmpT op a b st.mu fun c => Q (.bool c) st) st) st)
   (fun op op' r r' => chk (!lastMarks [op, op'] [r, r']) <| ev nc l (fun a st => ev nc r (fun b st => c1T op a b (fun c st => brT c (ev nc r' (fun d st => cmpT op' b d st.mu fun c => Q (.bool c) st) st) (Q (.bool false) st)) st) st) st)
 | .IfExp t b o _ => evb nc t (fun c st => brT c (ev nc b Q st) (ev nc o Q st)) st
 | .UnaryOp op x _ => (match op with
   | .Not => ev nc x (tstT fun c => Q (.bool (!c))) st
   | .USub => ev nc x (fun v st => intP v fun i => Q (.int (-i)) st) st
   | _ => False)
 | .BoolOp op es _ => (match op with
   | .And => evAnd (ev nc) es Q st
   | .Or => evOr (ev nc) es Q st)
 | .Tuple es _ _ => chk (noStar es) <| evls (ev nc) es (fun vs st => dis vs (Q (.tup vs) st)) st
 | .List es _ => chk (noStar es) <| evls (ev nc) es (fun vs st => dis vs (Q (.lst vs) st)) st
 | .Subscript a b _ => ev nc a (fun a st => ev nc b (fun b st => subT a b st.mu fun v => Q v st) st) st
 | .Slice lo hi sp _ => evpart (ev nc) lo (fun a st => evpart (ev nc) hi (fun b st => evpart (ev nc) sp (fun c st => slcT a b c Q st) st) st) st
 | .Attribute a x _ => chk (baseOk a) <| ev nc a (fun o st => attrT T.fd o x st.mu fun v => Q v st) st
 | .Call f es kw pos => chk kw.isEmpty (match f with
   | .Name x _ => chk (noStar es && isGlob nc x) <| evCallN T Γ X x (evls (ev nc) es) Q st
   | .Attribute o x apos => chk (methForm o apos pos es) <| brS (isExcName o && x == ("__init__" : Str) && nc.sc.names.lookup ("Exception" : Str) == some .globalImplicit) (evls (ev nc) es (fun vs st => excInitT T vs st Q) st) (ev nc o (fun v st => evMeth T Γ X x v (evls (ev nc) es) Q st) st)
   | _ => False)
 | .ListComp elt gens scope _ => genP gens fun target iter => chk (nc.inn.isNone && !isSet iter && compOk scope nc.sc && (tgtNames target).all (fun x => scope.names.lookup x == some .local)) <|
   evIter (ev nc) nc T target iter (fun bs st => fullT (fun b Q st => ev ⟨relabelV scope nc.sc, some b⟩ elt Q st) bs Q st) st
 | _ => False
noncomputable def plainTest (e : Expr) : Bool := match e with
 | .Name .. | .Call .. | .Attribute .. | .Subscript .. => true
 | _ => false
noncomputable def evbStep (T : Tabs) (Γ : Addr → Ctr) (X : Str → Prop) (ev : NC → Expr → QV → DS → Prop) (evb : NC → Expr → QB → DS → Prop) (nc : NC) (e : Expr) (Q : QB) (st : DS) : Prop := match e with
 | .Compare l ops rs _ => cmpP ops rs (fun op r => chk (!behindInMarks op r) <| ev nc l (fun a st => ev nc r (fun b st => c1T op a b Q st) st) st)
   (fun op op' r r' => chk (!lastMarks [op, op'] [r, r']) <| ev nc l (fun a st => ev nc r (fun b st => c1T op a b (fun c st => brT c (ev nc r' (fun d st => c1T op' b d Q st) st) (Q false st)) st) st) st)
 | .BoolOp op es _ => (match op with
   | .And => tsAnd (evb nc) es Q st
   | .Or => tsOr (evb nc) es Q st)
 | .UnaryOp op x _ => (match op with
   | .Not => evb nc x (fun c => Q (!c)) st
   | _ => False)
 | .IfExp t b o _ => evb nc t (fun c st => brT c (evb nc b Q st) (evb nc o Q st)) st
 | e => chk (plainTest e) <| ev nc e (tstT Q) st
structure Lv where
 ev : NC → Expr → QV → DS → Prop
 evb : NC → Expr → QB → DS → Prop
noncomputable def lv (T : Tabs) (Γ : Addr → Ctr) (X : Str → Prop) (n : Nat) : Lv :=
 Nat.rec (motive := fun _ => Lv) ⟨fun _ _ _ _ => False, fun _ _ _ _ => False⟩ (fun _ l => ⟨evStep T Γ X l.ev l.evb, evbStep T Γ X l.ev l.evb⟩) n
abbrev QR := V → Option DS → Prop
noncomputable def isAdd (op : Operator) : Bool := match op with
 | .Add => true
 | _ => false
noncomputable def asgT (ev : Expr → QV → DS → Prop) (x : Str) (e : Expr) (N : DS → Prop) (st : DS) : Prop := match e with
 | .ListComp .. => ev e (fun v st => N (st.set x v)) st
 | .List es _ => chk (noStar es) <| evls ev es (fun vs st => dis vs <| N (DS.set { st with mu := st.mu ++ [.lst vs] } x (.cel st.mu.length))) st
 | .BinOp l op r _ => brS (isAdd op && x == ("odd" : Str)) (ev l (fun a st => ev r (fun b st => addNew a b (fun v st => N (st.set x v)) st) st) st) (ev e (fun v st => N (st.set x v)) st)
 | _ => chk (!isComp e) <| ev e (fun v st => N (st.set x v)) st
noncomputable def evAssign (T : Tabs) (L : Lv) (nc : NC) (tgt e : Expr) (N : DS → Prop) (st : DS) : Prop := match tgt with
 | .Name x _ => chk (storable nc.sc x) (asgT (L.ev nc) x e N st)
 | .Tuple elts _ _ => chk (elts.all isNm && (elts.map nmOf).all (storable nc.sc) && nDup (elts.map nmOf) && tupShape e) <|
   L.ev nc e (fun v st => oElim (seqOf v) fun vs => chk (Nat.beq vs.length elts.length) <| N (setAll st ((elts.map nmOf).zip vs))) st
 | .Attribute o x _ => chk (!isComp e) <| L.ev nc e (fun v st => L.ev nc o (fun ov st => attrSetT T ov v x N st) st) st
 | .Subscript o i _ => chk (!isComp e) <| L.ev nc e (fun v st => L.ev nc o (fun ov st => L.ev nc i (fun iv st => itemSetT ov iv v N st) st) st) st
 | _ => False
noncomputable def exStep (T : Tabs) (Γ : Addr → Ctr) (n : Nat) (bb : Bool) (nc : NC) (exs : List Stmt → (DS → Prop) → QR → (Str → Prop) → DS → Prop) (s : Stmt) (N : DS → Prop) (Rt : QR) (X : Str → Prop) (st : DS) : Prop := match s with
 | .Expr e _ => chk (!isComp e) <| (lv T Γ X n).ev nc e (fun v st => noneK v (N st)) st
 | .Return e _ => oElim e fun e => (lv T Γ X n).ev nc e (fun v st => retT bb v st Rt) st
 | .If t b o _ => (lv T Γ X n).evb nc t (fun c st => brT c (exs b N Rt X st) (exs o N Rt X st)) st
 | .Assign ts e _ => oneL ts fun tgt => evAssign T (lv T Γ X n) nc tgt e N st
 | .For tgt iter body orelse _ => nameP tgt fun x => chk (orelse.isEmpty && (storable nc.sc x && !isSet iter)) <| evIter ((lv T Γ X n).ev nc) nc T (.Name x default) iter (fun bs st => loopW (fun N Rt st => exs body N Rt X st) bs N Rt st) st
 | .Raise e c _ => oElim e fun e => chk c.isNone <| (lv T Γ X n).ev nc e (fun v st => raiseT T v X st) st
 | .Try body hs orelse fin _ => tryP hs fun x => chk (orelse.isEmpty && fin.isEmpty && (!bb && isGlob nc x)) (isExc T x (exs body N Rt (fun c => c = x ∧ Rt .none none) st))
 | _ => False
noncomputable def exl (ex : Stmt → (DS → Prop) → QR → (Str → Prop) → DS → Prop) (ss : List Stmt) : (DS → Prop) → QR → (Str → Prop) → DS → Prop :=
 List.rec (motive := fun _ => (DS → Prop) → QR → (Str → Prop) → DS → Prop) (fun N _ _ st => N st) (fun s _ k N Rt X st => ex s (fun st => k N Rt X st) Rt X st) ss
noncomputable def exs (T : Tabs) (Γ : Addr → Ctr) (n : Nat) (bb : Bool) (nc : NC) (k : Nat) : List Stmt → (DS → Prop) → QR → (Str → Prop) → DS → Prop :=
 Nat.rec (motive := fun _ => List Stmt → (DS → Prop) → QR → (Str → Prop) → DS → Prop) (fun _ _ _ _ _ => False) (fun _ f ss N Rt X st => exl (exStep T Γ n bb nc f) ss N Rt X st) k
section
section
variable {T : Tabs}
variable {ev : Expr → QV → DS → Prop} {evb : Expr → QB → DS → Prop} {F : QV → DS → Prop} {L : (List V → DS → Prop) → DS → Prop}
noncomputable def SdE (G : Gd) (cx : Cx) (A : Around) (ex : List (Addr × Obj)) (X : Str → Prop) (nc : NC) (env : Env) (ev : Expr → QV → DS → Prop) : Prop := ∀ e, Sd G cx A ex X nc env (eval e env) (ev e)
noncomputable def SbE (G : Gd) (cx : Cx) (A : Around) (ex : List (Addr × Obj)) (X : Str → Prop) (nc : NC) (env : Env) (evb : Expr → QB → DS → Prop) : Prop := ∀ e, Sb G cx A ex X nc env (isTrue e env (eval e env)) (evb e)
theorem Sd.no {t : Sem Value} : Sd G cx A ex X nc env t (fun _ _ => False) := fun _ _ _ _ _ h => h.elim
theorem Sb.no {t : Sem Bool} : Sb G cx A ex X nc env t (fun _ _ => False) := fun _ _ _ _ _ h => h.elim
theorem Sd.chk {b : Bool} {t : Sem Value} (k : b = true → Sd G cx A ex X nc env t F) : Sd G cx A ex X nc env t (fun Q st => chk b (F Q st)) := fun Q g ad st N h => chk_e h fun e h => k e Q g ad st N h
theorem Sb.chk {b : Bool} {t : Sem Bool} {B : QB → DS → Prop} (k : b = true → Sb G cx A ex X nc env t B) : Sb G cx A ex X nc env t (fun Q st => Mine.chk b (B Q st)) := fun Q g ad st N h => chk_e h fun e h => k e Q g ad st N h
theorem Sd.opt {α : Type} {o : Option α} {t : Sem Value} {F : α → QV → DS → Prop} (k : ∀ a, o = some a → Sd G cx A ex X nc env t (F a)) : Sd G cx A ex X nc env t (fun Q st => oElim o fun a => F a Q st) := fun Q g ad st N h => oE_e h fun a e h => k a e Q g ad st N h
theorem not_true {b : Bool} (h : (!b) = true) : b = false := by cases b with | false => rfl | true => exact Bool.noConfusion h
theorem and_true {a b : Bool} (h : (a && b) = true) : a = true ∧ b = true := Bool.and_eq_true_iff.mp h
theorem nil_of {α : Type} {l : List α} (h : l.isEmpty = true) : l = [] := List.isEmpty_iff.mp h
theorem sd_list {pos : Pos} (H : SdE G cx A ex X nc env ev) {es : List Expr} (hn : noStar es = true) : Sl G cx A ex X nc env (spliced (backTo pos (starEach es env))) (evls ev es) := by
 induction es with
 | nil => exact rl_nil
 | cons e es ih => exact have q := noStar_head (env := env) hn; rl_cons (H e) (ih q.2) q.1
theorem sd_and (H : SdE G cx A ex X nc env ev) {pos : Pos} (es : List Expr) : Sd G cx A ex X nc env (eval (.BoolOp .And es pos) env) (evAnd ev es) := by
 induction es with
 | nil => exact Sd.no
 | cons e es ih => cases es with
  | nil => exact r_one (H e)
  | cons e' es => exact r_and (H e) ih
theorem sd_or (H : SdE G cx A ex X nc env ev) {pos : Pos} (es : List Expr) : Sd G cx A ex X nc env (eval (.BoolOp .Or es pos) env) (evOr ev es) := by
 induction es with
 | nil => exact Sd.no
 | cons e es ih => cases es with
  | nil => exact r_one (H e)
  | cons e' es => exact r_or (H e) ih
theorem sb_and (H : SbE G cx A ex X nc env evb) {pos : Pos} {whole : Sem Value} (es : List Expr) : Sb G cx A ex X nc env (isTrue (.BoolOp .And es pos) env whole) (tsAnd evb es) := by
 induction es with
 | nil => exact rb_and_nil
 | cons e es ih => exact rb_and (H e) ih
theorem sb_or (H : SbE G cx A ex X nc env evb) {pos : Pos} {whole : Sem Value} (es : List Expr) : Sb G cx A ex X nc env (isTrue (.BoolOp .Or es pos) env whole) (tsOr evb es) := by
 induction es with
 | nil => exact rb_or_nil
 | cons e es ih => exact rb_or (H e) ih
theorem sd_part (H : SdE G cx A ex X nc env ev) (o : Option Expr) : Sd G cx A ex X nc env (evalPart o env) (evpart ev o) := by
 cases o with
 | none => exact r_part_none
 | some e => exact r_part_some (H e)
theorem isGlob_of {x : Str} (h : isGlob nc x = true) : nc.sc.names.lookup x = some .globalImplicit ∧ (x == ("__debug__" : Str)) = false := have q := and_true h; ⟨eq_of_beq q.1, not_true q.2⟩
theorem sd_callN {x : Str} {np pos : Pos} {es : List Expr} (C : CxOk G cx) (O : AOk cx A (r + 1)) (hT : TabsOk G.K T) (hΓ : ∀ f, SoundF G r f (Γ f)) (hn : noStar es = true) (hg : isGlob nc x = true)
  (hl : Sl G cx A ex X nc env (spliced (backTo pos (starEach es env))) (evls ev es)) : Sd G cx A ex X nc env (eval (.Call (.Name x np) es [] pos) env) (fun Q st => evCallN T Γ X x (evls ev es) Q st) := by
 have h12 := isGlob_of hg
 intro Q g ad st N h
 unfold evCallN at h
 cases q : T.gl x with
 | fn f =>
  rw [q] at h
  exact r_CallF C O h12.1 h12.2 (hT.fn _ _ q).1 (hT.fn _ _ q).2 (hΓ f) hn hl Q g ad st N h
 | cls fI =>
  rw [q] at h
  obtain ⟨Ca, a1, a2, a3, a4, a5⟩ := hT.cls _ _ q
  intro s Q' E' R hg hq he
  have T := R.top C
  rw [eval_Call_fn (func := .Name x np) (by intro o n p e; cases e)]
  refine wpAny_bind (Name_function_global (N.kind C) (by rw [← h12.1, N.sc]; rfl) (loadGlobal_global (env := env) (by rw [N.glob C]; exact T.g) (mg_of (R.kin C) T.g a1) ?_) h12.2)
  exact s_callWith C (CallOk.keep a5) hn hl N h (fun vals vs g' ad' st' S' p N' rs q => s_make C O a1 a2 a3 a4 (hΓ fI) rs q) s Q' E' R hg hq he
 | exc fI =>
  rw [q] at h
  obtain ⟨Ca, a1, a2, a3⟩ := hT.exc _ _ q
  exact r_CallX C O h12.1 h12.2 a1 a2 (hΓ fI) hn hl Q g ad st N h
 | int i =>
  rw [q] at h
  exact False.elim h
 | no =>
  rw [q] at h
  exact oE_e h fun b qb h => r_CallB C O h12.1 (hT.bi _ _ q qb) qb hn hl Q g ad st N h
theorem sd_meth {o : Expr} {x : Str} {apos pos : Pos} {es : List Expr} (C : CxOk G cx) (O : AOk cx A (r + 1)) (hT : TabsOk G.K T) (hΓ : ∀ f, SoundF G r f (Γ f)) (hf : methForm o apos pos es = true) (h0 : Sd G cx A ex X nc env (eval o env) F)
  (hl : Sl G cx A ex X nc env (spliced (backTo pos (starEach es env))) L) : Sd G cx A ex X nc env (eval (.Call (.Attribute o x apos) es [] pos) env) (fun Q st => F (fun v st => evMeth T Γ X x v L Q st) st) := by
 unfold evMeth
 cases isBM x with
 | true => exact r_CallBM C hf h0 hl
 | false => exact r_CallM hT.mt C O hΓ hf h0 hl
@[elab_as_elim] theorem nameP_e {e : Expr} {K : Str → Prop} {P : Expr → Prop} (h : nameP e K) (k : ∀ x p, K x → P (.Name x p)) : P e := by
 cases e with
 | Name x p => exact k x p h
 | _ => exact False.elim h
@[elab_as_elim] theorem oneL_e {α : Type} {l : List α} {K : α → Prop} {P : List α → Prop} (h : oneL l K) (k : ∀ x, K x → P [x]) : P l := by
 cases l with
 | nil => exact False.elim h
 | cons x l => cases l with
  | nil => exact k x h
  | cons _ _ => exact False.elim h
@[elab_as_elim] theorem twoL_e {α : Type} {l : List α} {K : α → α → Prop} {P : List α → Prop} (h : twoL l K) (k : ∀ x y, K x y → P [x, y]) : P l := by
 cases l with
 | nil => exact False.elim h
 | cons x l => cases l with
  | nil => exact False.elim h
  | cons y l => cases l with
   | nil => exact k x y h
   | cons _ _ => exact False.elim h
@[elab_as_elim] theorem oEl_e {α : Type} {o : Option α} {K : α → Prop} {P : Option α → Prop} (h : oElim o K) (k : ∀ a, K a → P (some a)) : P o := by
 cases o with
 | none => exact False.elim h
 | some a => exact k a h
@[elab_as_elim] theorem nil_e {α : Type} {l : List α} {P : List α → Prop} (h : l.isEmpty = true) (k : P []) : P l := List.isEmpty_iff.mp h ▸ k
@[elab_as_elim] theorem non_e {α : Type} {o : Option α} {P : Option α → Prop} (h : o.isNone = true) (k : P none) : P o := Option.isNone_iff_eq_none.mp h ▸ k
@[elab_as_elim] theorem genP_e {l : List Comprehension} {K : Expr → Expr → Prop} {P : List Comprehension → Prop} (h : genP l K) (k : ∀ t i, K t i → P [⟨t, i, [], 0⟩]) : P l :=
 oneL_e h fun c h => by
  obtain ⟨t, i, ifs, a⟩ := c
  have q := chk_elim h
  have q1 := and_true q.1
  exact nil_e (P := fun ifs => P [⟨t, i, ifs, a⟩]) q1.1 ((eq_of_beq q1.2 : a = 0) ▸ k t i q.2)
theorem cNone_e {c : Const} {Q : Prop} {P : Const → Prop} (h : cNone c Q) (k : Q → P .none) : P c := by
 cases c with
 | none => exact k h
 | _ => exact False.elim h
theorem eNone_e {e : Expr} {Q : Prop} {P : Expr → Prop} (h : eNone e Q) (k : ∀ kk kp, Q → P (.Constant .none kk kp)) : P e := by
 cases e with
 | Constant c kk kp => exact cNone_e (P := fun c => P (.Constant c kk kp)) h (k kk kp)
 | _ => exact False.elim h
theorem sNone_e {s : Stmt} {Q : Prop} {P : Stmt → Prop} (h : sNone s Q) (k : ∀ kk kp rp, Q → P (.Return (some (.Constant .none kk kp)) rp)) : P s := by
 cases s with
 | Return e rp => exact oEl_e (P := fun e => P (.Return e rp)) h fun e h => eNone_e (P := fun e => P (.Return (some e) rp)) h fun kk kp => k kk kp rp
 | _ => exact False.elim h
@[elab_as_elim] theorem tryP_e {hs : List ExceptHandler} {K : Str → Prop} {P : List ExceptHandler → Prop} (h : tryP hs K) (k : ∀ x np kk kp rp hp, K x → P [.ExceptHandler (some (.Name x np)) none [.Return (some (.Constant .none kk kp)) rp] hp]) : P hs :=
 oneL_e h fun s h => by
  obtain ⟨t, n, b, hp⟩ := s
  exact oEl_e (P := fun t => P [.ExceptHandler t n b hp]) h fun t h => nameP_e (P := fun t => P [.ExceptHandler (some t) n b hp]) h fun x np h => non_e (P := fun n => P [.ExceptHandler (some (.Name x np)) n b hp]) (chk_elim h).1
   (oneL_e (P := fun b => P [.ExceptHandler (some (.Name x np)) none b hp]) (chk_elim h).2 fun s h => sNone_e (P := fun s => P [.ExceptHandler (some (.Name x np)) none [s] hp]) h fun kk kp rp h => k x np kk kp rp hp h)
theorem Sit.no {target iter : Expr} : Sit G cx A ex X target iter (fun _ _ => False) := fun B g ad st s Q' E' hF => False.elim hF
theorem Sit.chk {b : Bool} {target iter : Expr} {F : (List (List (Str × V)) → DS → Prop) → DS → Prop} (k : b = true → Sit G cx A ex X target iter F) : Sit G cx A ex X target iter (fun B st => Mine.chk b (F B st)) := fun B g ad st s Q' E' hF => chk_e hF fun e h => k e B g ad st s Q' E' h
section
variable {α β γ : Type}
theorem nameP_all {S : Expr → (α → β → Prop) → Prop} (no : ∀ e, S e fun _ _ => False) {e : Expr} {K : Str → α → β → Prop} (k : ∀ x p, S (.Name x p) (K x)) : S e (fun a b => nameP e fun x => K x a b) := by
 cases e with
 | Name x p => exact k x p
 | _ => exact no _
theorem oneL_all {S : List γ → (α → β → Prop) → Prop} (no : ∀ l, S l fun _ _ => False) {l : List γ} {K : γ → α → β → Prop} (k : ∀ x, S [x] (K x)) : S l (fun a b => oneL l fun x => K x a b) := by
 cases l with
 | nil => exact no _
 | cons x l => cases l with
  | nil => exact k x
  | cons _ _ => exact no _
theorem twoL_all {S : List γ → (α → β → Prop) → Prop} (no : ∀ l, S l fun _ _ => False) {l : List γ} {K : γ → γ → α → β → Prop} (k : ∀ x y, S [x, y] (K x y)) : S l (fun a b => twoL l fun x y => K x y a b) := by
 cases l with
 | nil => exact no _
 | cons x l => cases l with
  | nil => exact no _
  | cons y l => cases l with
   | nil => exact k x y
   | cons _ _ => exact no _
theorem nilE_all {S : List γ → (α → β → Prop) → Prop} (no : ∀ l, S l fun _ _ => False) {l : List γ} {K : α → β → Prop} (k : S [] K) : S l (fun a b => chk l.isEmpty (K a b)) := by
 cases l with
 | nil => exact k
 | cons _ _ => exact no _
theorem callP_all {S : Expr → (α → β → Prop) → Prop} (no : ∀ e, S e fun _ _ => False) {e : Expr} {K : Str → Expr → α → β → Prop} (k : ∀ x np a pos, S (.Call (.Name x np) [a] [] pos) (K x a)) : S e (fun a b => callP e fun x y => K x y a b) := by
 cases e with
 | Call f es kw pos =>
  exact nameP_all (S := fun f F => S (.Call f es kw pos) F) (fun _ => no _) fun x np => oneL_all (S := fun es F => S (.Call (.Name x np) es kw pos) F) (fun _ => no _) fun a => nilE_all (S := fun kw F => S (.Call (.Name x np) [a] kw pos) F) (fun _ => no _) (k x np a pos)
 | _ => exact no _
theorem genP_all {S : List Comprehension → (α → β → Prop) → Prop} (no : ∀ l, S l fun _ _ => False) {l : List Comprehension} {K : Expr → Expr → α → β → Prop} (k : ∀ t i, S [⟨t, i, [], 0⟩] (K t i)) : S l (fun a b => genP l fun t i => K t i a b) :=
 oneL_all no fun c => by
  obtain ⟨t, i, ifs, a⟩ := c
  cases ifs with
  | cons _ _ => exact no _
  | nil =>
   cases q : a == 0 with
   | true =>
    have e : a = 0 := eq_of_beq q
    subst e
    exact k t i
   | false => show S _ (fun x y => chk (true && a == 0) (K t i x y)); rw [q]; exact no _
end
theorem sit_of {target iter : Expr} (C : CxOk G cx) (O : AOk cx A r) (hT : TabsOk G.K T) (H : SdE G cx A ex X ⟨cx.envF.scope, none⟩ cx.envF ev) : Sit G cx A ex X target iter (evIter ev ⟨cx.envF.scope, none⟩ T target iter) := by
 cases target with
 | Name x px => exact sit_name C O (H iter)
 | Tuple ts kk tp =>
  refine twoL_all (S := fun ts F => Sit G cx A ex X (.Tuple ts kk tp) iter F) (fun _ => Sit.no) fun u v => ?_
  refine nameP_all (S := fun u F => Sit G cx A ex X (.Tuple [u, v] kk tp) iter F) (fun _ => Sit.no) fun a pa => ?_
  refine nameP_all (S := fun v F => Sit G cx A ex X (.Tuple [.Name a pa, v] kk tp) iter F) (fun _ => Sit.no) fun b pb => ?_
  refine callP_all (S := fun iter F => Sit G cx A ex X (.Tuple [.Name a pa, .Name b pb] kk tp) iter F) (fun _ => Sit.no) fun f np e' pos => ?_
  refine Sit.chk fun hc => ?_
  have q1 := and_true hc
  have q2 := and_true q1.1
  have q3 := and_true q2.1
  have ef := eq_of_beq q3.1
  subst ef
  exact sit_enum C O (bne_iff_ne.mp q3.2) (eq_of_beq q1.2) hT.enum q2.2 (H e')
 | _ => exact Sit.no
theorem sd_gl {x : Str} {pos : Pos} (C : CxOk G cx) (hT : TabsOk G.K T) (hk : nc.sc.names.lookup x = some .globalImplicit) (hd : (x == ("__debug__" : Str)) = false) : Sd G cx A ex X nc env (eval (.Name x pos) env) (fun Q st => glT T x fun v => Q v st) := by
 intro Q g ad st N h
 unfold glT at h
 cases hg : T.gl x with
 | int i =>
  rw [hg] at h
  obtain ⟨t, e⟩ := hT.int _ _ hg
  exact ev_glob C N hk (by unfold globV; rw [e]) hd h
 | no =>
  rw [hg] at h
  exact oE_e h fun t ht h => r_ty C N hk (hT.ty _ _ hg ht) ht h
 | _ => rw [hg] at h; exact False.elim h
theorem sd_name {x : Str} {pos : Pos} (C : CxOk G cx) (hT : TabsOk G.K T) (hd : (x == ("__debug__" : Str)) = false) : Sd G cx A ex X nc env (eval (.Name x pos) env) (nameT T nc x) := by
 have loc : Sd G cx A ex X nc env (eval (.Name x pos) env) (fun Q st => oElim (nameV nc st x) fun v => Q v st) := fun Q g ad st N h => oE_e h fun v e h => ev_name C N e hd h
 unfold nameT
 cases hk : nc.sc.names.lookup x with
 | none => exact loc
 | some k => cases k with
  | globalImplicit => exact sd_gl C hT hk hd
  | _ => exact loc
theorem nc_fn {nc : NC} (N : EnvOk G cx ex g ad nc env) (h : nc.inn.isNone = true) : nc = ⟨cx.envF.scope, none⟩ ∧ env = cx.envF := by
 cases N with
 | fn => exact ⟨rfl, rfl⟩
 | comp => exact Bool.noConfusion h
end
section
variable {T : Tabs}
variable {ev : NC → Expr → QV → DS → Prop} {evb : NC → Expr → QB → DS → Prop}
theorem comp_ok {target iter elt : Expr} {scope : Scope} (H : ∀ ex nc env e, Sd G cx A ex X nc env (eval e env) (ev nc e)) (hc : (!isSet iter && compOk scope cx.envF.scope && (tgtNames target).all (fun x => scope.names.lookup x == some .local)) = true) :
  isSet iter = false ∧ CompSound G cx A X scope target elt (fun b => ev ⟨relabelV scope cx.envF.scope, some b⟩ elt) :=
 have q := and_true hc
 have q1 := and_true q.1
 ⟨not_true q1.1, q1.2, fun x hx => eq_of_beq (all_eq_true.mp q.2 x hx), fun b hb cenv ex₁ g' ad' st' Q N h => H ex₁ _ cenv elt Q g' ad' st' N h⟩
theorem sd_comp {elt target iter : Expr} {scope : Scope} {pos : Pos} (C : CxOk G cx) (O : AOk cx A r) (hT : TabsOk G.K T) (H : ∀ ex nc env e, Sd G cx A ex X nc env (eval e env) (ev nc e)) (hc : (nc.inn.isNone && !isSet iter && compOk scope nc.sc && (tgtNames target).all (fun x => scope.names.lookup x == some .local)) = true) :
  Sd G cx A ex X nc env (eval (.ListComp elt [⟨target, iter, [], 0⟩] scope pos) env) (fun Q st => evIter (ev nc) nc T target iter (fun bs st => fullT (fun b Q st => ev ⟨relabelV scope nc.sc, some b⟩ elt Q st) bs Q st) st) := by
 intro Q g ad st N h
 have q := and_true hc
 have q1 := and_true q.1
 have q2 := and_true q1.1
 obtain ⟨rfl, rfl⟩ := nc_fn N q2.1
 have cs := comp_ok (elt := elt) H (by rw [q2.2, q1.2, q.2]; rfl)
 exact r_ListComp C O cs.1 cs.2 (sit_of C O hT (H ex _ _)) Q g ad st .fn h
theorem sd_step (C : CxOk G cx) (O : AOk cx A (r + 1)) (O' : AOk cx A r) (hT : TabsOk G.K T) (hΓ : ∀ f, SoundF G r f (Γ f)) (H : ∀ ex nc env e, Sd G cx A ex X nc env (eval e env) (ev nc e)) (Hb : ∀ ex nc env e, Sb G cx A ex X nc env (isTrue e env (eval e env)) (evb nc e)) (e : Expr) :
  Sd G cx A ex X nc env (eval e env) (evStep T Γ X ev evb nc e) := by
 have He : SdE G cx A ex X nc env (ev nc) := H ex nc env
 have Hbe : SbE G cx A ex X nc env (evb nc) := Hb ex nc env
 cases e with
 | Constant c k pos =>
  cases c with
  | int i => exact fun Q g ad st N h => ev_int h
  | str s => exact fun Q g ad st N h => ev_str h
  | none => exact fun Q g ad st N h => ev_none h
  | bool b => exact fun Q g ad st N h => ev_bool h
  | _ => exact Sd.no
 | Name x pos => exact Sd.chk fun hd => sd_name C hT (not_true hd)
 | BinOp l op r pos => exact r_BinOp C O (He l) (He r)
 | IfExp t b o pos => exact r_IfExp (Hbe t) (He b) (He o)
 | UnaryOp op x pos =>
  cases op with
  | Not => exact r_not (He x)
  | USub => exact r_neg (He x)
  | _ => exact Sd.no
 | BoolOp op es pos =>
  cases op with
  | And => exact sd_and He es
  | Or => exact sd_or He es
 | Tuple es k pos => exact Sd.chk fun hn => r_Tuple (sd_list He hn)
 | List es pos => exact Sd.chk fun hn => r_List (sd_list He hn)
 | Subscript a b pos => exact r_Subscript C (He a) (He b)
 | Slice lo hi sp pos => exact r_Slice (sd_part He lo) (sd_part He hi) (sd_part He sp)
 | Attribute a x pos => exact Sd.chk fun hb => r_Attribute hT.fd C hb (He a)
 | Compare l ops rs pos =>
  cases ops with
  | nil => exact Sd.no
  | cons op ops => cases ops with
   | nil => exact oneL_all (S := fun rs F => Sd G cx A ex X nc env (eval (.Compare l [op] rs pos) env) F) (fun _ => Sd.no) fun r => Sd.chk fun hm => r_Compare1 C O (He l) (He r) (not_true hm)
   | cons op' ops => cases ops with
    | nil => exact twoL_all (S := fun rs F => Sd G cx A ex X nc env (eval (.Compare l [op, op'] rs pos) env) F) (fun _ => Sd.no) fun r r' => Sd.chk fun hm => r_Compare2 C O (He l) (He r) (He r') (not_true hm)
    | cons _ _ => exact Sd.no
 | Call f es kw pos =>
  refine nilE_all (S := fun kw F => Sd G cx A ex X nc env (eval (.Call f es kw pos) env) F) (fun _ => Sd.no) ?_
  cases f with
  | Name x np => exact Sd.chk fun hc => sd_callN C O hT hΓ (and_true hc).1 (and_true hc).2 (sd_list He (and_true hc).1)
  | Attribute o x apos =>
   refine Sd.chk fun hf => ?_
   have hl := sd_list (pos := pos) He (methForm_star hf)
   cases hb : (isExcName o && x == ("__init__" : Str) && nc.sc.names.lookup ("Exception" : Str) == some .globalImplicit) with
   | true =>
    have q := and_true hb
    have q1 := and_true q.1
    have ex := eq_of_beq q1.2
    subst ex
    cases o with
    | Name y np =>
     have ey : y = "Exception" := eq_of_beq q1.1
     subst ey
     exact r_ExcInit C hT (eq_of_beq q.2) hf hl
    | _ => exact Bool.noConfusion q1.1
   | false => exact sd_meth C O hT hΓ hf (He o) hl
  | _ => exact Sd.no
 | ListComp elt gens scope pos =>
  exact genP_all (S := fun gens F => Sd G cx A ex X nc env (eval (.ListComp elt gens scope pos) env) F) (fun _ => Sd.no) fun t i => Sd.chk fun hc => sd_comp C O' hT H hc
 | _ => exact Sd.no
theorem sb_plainly {e : Expr} (he : plainTest e = true) : isTrue e env (eval e env) = (do let v ← eval e env; PySem.standAt e.pos; PySem.holding [v] (truthy v)) := by
 cases e with
 | Name _ _ => rfl
 | Call _ _ _ _ => rfl
 | Attribute _ _ _ => rfl
 | Subscript _ _ _ => rfl
 | _ => exact Bool.noConfusion he
theorem sb_step (C : CxOk G cx) (O' : AOk cx A r) (H : ∀ ex nc env e, Sd G cx A ex X nc env (eval e env) (ev nc e)) (Hb : ∀ ex nc env e, Sb G cx A ex X nc env (isTrue e env (eval e env)) (evb nc e)) (e : Expr) :
  Sb G cx A ex X nc env (isTrue e env (eval e env)) (evbStep T Γ X ev evb nc e) := by
 have He : SdE G cx A ex X nc env (ev nc) := H ex nc env
 have Hbe : SbE G cx A ex X nc env (evb nc) := Hb ex nc env
 have plain : Sb G cx A ex X nc env (isTrue e env (eval e env)) (fun Q st => chk (plainTest e) (ev nc e (tstT Q) st)) := Sb.chk fun hp => rb_plain (He e) (sb_plainly hp)
 cases e with
 | Compare l ops rs pos =>
  cases ops with
  | nil => exact Sb.no
  | cons op ops => cases ops with
   | nil => exact oneL_all (S := fun rs F => Sb G cx A ex X nc env (isTrue (.Compare l [op] rs pos) env (eval (.Compare l [op] rs pos) env)) F) (fun _ => Sb.no) fun r => Sb.chk fun hm => rb_Compare1 C O' (He l) (He r) (not_true hm)
   | cons op' ops => cases ops with
    | nil => exact twoL_all (S := fun rs F => Sb G cx A ex X nc env (isTrue (.Compare l [op, op'] rs pos) env (eval (.Compare l [op, op'] rs pos) env)) F) (fun _ => Sb.no) fun r r' => Sb.chk fun hm => rb_Compare2 C O' (He l) (He r) (He r') (not_true hm)
    | cons _ _ => exact Sb.no
 | BoolOp op es pos =>
  cases op with
  | And => exact sb_and Hbe es
  | Or => exact sb_or Hbe es
 | UnaryOp op x pos =>
  cases op with
  | Not => exact rb_not (Hbe x)
  | _ => exact Sb.no
 | IfExp t b o pos => exact rb_IfExp (Hbe t) (Hbe b) (Hbe o)
 | _ => exact plain
theorem AOk.down (O : AOk cx A (r + 1)) : AOk cx A r := ⟨O.frames, O.handled, O.guards, Nat.le_trans (Nat.add_le_add_left (Nat.mul_le_mul_left 20 (Nat.le_succ r)) _) O.depth, Nat.le_trans (Nat.add_le_add_left (Nat.mul_le_mul_left 100 (Nat.le_succ r)) _) O.units⟩
theorem lv_sound (C : CxOk G cx) (O : AOk cx A (r + 1)) (hT : TabsOk G.K T) (hΓ : ∀ f, SoundF G r f (Γ f)) (n : Nat) : (∀ ex nc env e, Sd G cx A ex X nc env (eval e env) ((lv T Γ X n).ev nc e)) ∧ (∀ ex nc env e, Sb G cx A ex X nc env (isTrue e env (eval e env)) ((lv T Γ X n).evb nc e)) := by
 induction n with
 | zero => exact ⟨fun ex nc env e => Sd.no, fun ex nc env e => Sb.no⟩
 | succ n ih => exact ⟨fun ex nc env e => sd_step C O O.down hT hΓ ih.1 ih.2 e, fun ex nc env e => sb_step (T := T) (Γ := Γ) C O.down ih.1 ih.2 e⟩
end
section
variable {T : Tabs} {Rt : QR} {bb : Bool} {L : Lv}
theorem ws_cons' {t : Stmt} {ts : List Stmt} {P : DS → Prop} (h1 : WS G cx A ex (exec t cx.envF) P Rt X g ad st) (h2 : ∀ g' ad' st', P st' → WS G cx A ex (execs ts cx.envF) N Rt X g' ad' st') : WS G cx A ex (execs (t :: ts) cx.envF) N Rt X g ad st :=
 fun s Q' E' R => ws_cons (R.ei fun _ I => I.sub) h1 (fun g' ad' st' _ => h2 g' ad' st') s Q' E' R
theorem ws_asg {x : Str} {px pos : Pos} {e : Expr} (C : CxOk G cx) (hx : storable cx.envF.scope x = true) (H : SdE G cx A ex X ⟨cx.envF.scope, none⟩ cx.envF (L.ev ⟨cx.envF.scope, none⟩))
  (hc : isComp e = true → L.ev ⟨cx.envF.scope, none⟩ e (fun v st => N (st.set x v)) st → WS G cx A ex (exec (.Assign [.Name x px] e pos) cx.envF) N Rt X g ad st)
  (h : asgT (L.ev ⟨cx.envF.scope, none⟩) x e N st) : WS G cx A ex (exec (.Assign [.Name x px] e pos) cx.envF) N Rt X g ad st := by
 have plain : chk (!isComp e) (L.ev ⟨cx.envF.scope, none⟩ e (fun v st => N (st.set x v)) st) → WS G cx A ex (exec (.Assign [.Name x px] e pos) cx.envF) N Rt X g ad st := fun h => ws_AssignName C (chk_not h).1 hx (H e) (chk_not h).2
 cases e with
 | ListComp elt gens scope cpos => exact hc rfl h
 | List es lp => exact chk_e h fun hn h => ws_AssignName C rfl hx (r_ListNew (sd_list H hn)) h
 | BinOp l op e' bp =>
  cases q : (isAdd op && x == ("odd" : Str)) with
  | false => exact plain (brS_f h q)
  | true =>
   have q1 := (and_true q).1
   cases op with
   | Add => exact ws_AssignName C rfl hx (r_AddNew C (H l) (H e')) (brS_t h q)
   | _ => exact Bool.noConfusion q1
 | _ => exact plain h
theorem ws_assign {tgt e : Expr} {pos : Pos} (C : CxOk G cx) (O : AOk cx A r) (hT : TabsOk G.K T) (H : SdE G cx A ex X ⟨cx.envF.scope, none⟩ cx.envF (L.ev ⟨cx.envF.scope, none⟩))
  (hc : isComp e = true → ∀ x px, storable cx.envF.scope x = true → L.ev ⟨cx.envF.scope, none⟩ e (fun v st => N (st.set x v)) st → WS G cx A ex (exec (.Assign [.Name x px] e pos) cx.envF) N Rt X g ad st)
  (h : evAssign T L ⟨cx.envF.scope, none⟩ tgt e N st) : WS G cx A ex (exec (.Assign [tgt] e pos) cx.envF) N Rt X g ad st := by
 cases tgt with
 | Name x px => exact chk_e h fun hx h => ws_asg C hx H (fun he h => hc he x px hx h) h
 | Tuple elts k tp =>
  exact chk_e h fun hq h => have q := and_true hq; have q1 := and_true q.1; have q2 := and_true q1.1; ws_AssignTuple C O q2.1 q2.2 (nDup_nodup q1.2) q.2 (H e) h
 | Attribute o x ap => exact chk_e h fun hs h => ws_AttrT C hT (not_true hs) (H e) (H o) h
 | Subscript o i ap => exact chk_e h fun hs h => ws_AssignSub C (not_true hs) (H e) (H o) (H i) h
 | _ => exact False.elim h
theorem ex_step {n : Nat} {nx : List Stmt → (DS → Prop) → QR → (Str → Prop) → DS → Prop} (C : CxOk G cx) (O : AOk cx A (r + 1)) (hT : TabsOk G.K T) (hΓ : ∀ f, SoundF G r f (Γ f)) (hD : bb = false → cx.D = [])
  (hx : ∀ ss N Rt X ex g ad st, nx ss N Rt X st → WS G cx A ex (execs ss cx.envF) N Rt X g ad st) {s : Stmt} (h : exStep T Γ n bb ⟨cx.envF.scope, none⟩ nx s N Rt X st) : WS G cx A ex (exec s cx.envF) N Rt X g ad st := by
 have O' := O.down
 have H : ∀ X, SdE G cx A ex X ⟨cx.envF.scope, none⟩ cx.envF ((lv T Γ X n).ev ⟨cx.envF.scope, none⟩) := fun X e => (lv_sound C O hT hΓ n).1 ex _ _ e
 cases s with
 | Expr e pos => exact chk_e h fun hs h => ws_Expr C (not_true hs) (H X e) h
 | Return e pos => exact oE_e h fun e q h => q ▸ ws_ReturnW C hD (H X e) h
 | If t b o pos => exact ws_If ((lv_sound C O hT hΓ n).2 ex _ _ t) h (fun g' ad' st' _ q => hx b N Rt X ex g' ad' st' (q)) (fun g' ad' st' _ q => hx o N Rt X ex g' ad' st' (q))
 | Assign ts e pos =>
  refine oneL_e (l := ts) h fun tgt h => ws_assign C O' hT (H X) (fun he x px hst h => ?_) h
  cases n with
  | zero => exact False.elim h
  | succ n =>
   cases e with
   | ListComp elt gens scope cpos =>
    exact genP_e (l := gens) h fun t i h => chk_e h fun hc h => have cs := comp_ok (elt := elt) (fun ex nc env e => (lv_sound C O hT hΓ n).1 ex nc env e) hc; ws_AssignComp C O' hst cs.1 cs.2 (sit_of C O' hT ((lv_sound C O hT hΓ n).1 ex _ _)) h
   | SetComp _ _ _ _ => exact False.elim h
   | DictComp _ _ _ _ _ => exact False.elim h
   | _ => exact Bool.noConfusion he
 | For tgt iter body orelse pos =>
  refine nameP_e (e := tgt) h fun x px h => chk_e h fun hc h => ?_
  have q := and_true hc
  have q1 := and_true q.2
  exact nil_e (l := orelse) q.1 (ws_For C O' q1.1 (not_true q1.2) (sit_of (target := .Name x px) C O' hT (H X)) (fun ex' g' ad' st' N Rt q => hx body N Rt X ex' g' ad' st' q) h)
 | Raise e c pos =>
  exact oE_e h fun e q h => chk_e h fun hc h => have ec := Option.isNone_iff_eq_none.mp hc; q ▸ ec ▸ ws_Raise C O hT (H X e) h
 | Try body hs orelse fin pos =>
  refine tryP_e (hs := hs) h fun x np k kp rp hp h => chk_e h fun hc h => ?_
  have q := and_true hc
  have q1 := and_true q.1
  have q2 := and_true q.2
  have h12 := isGlob_of q2.2
  exact nil_e (l := orelse) q1.1 (nil_e (l := fin) q1.2 (isExc_i hT h fun Ca fI a1 a2 a3 h => ws_TryNone C O (hD (not_true q2.1)) h12.1 h12.2 a1 a3 (hx _ _ _ _ _ _ _ _ h)))
 | _ => exact False.elim h
end
end
section
section
variable {T : Tabs} {Rt : QR} {bb : Bool}
theorem exl_sound {f : Stmt → (DS → Prop) → QR → (Str → Prop) → DS → Prop} (H : ∀ s N Rt X ex g ad st, f s N Rt X st → WS G cx A ex (exec s cx.envF) N Rt X g ad st) : ∀ ss N Rt X ex g ad st, exl f ss N Rt X st → WS G cx A ex (execs ss cx.envF) N Rt X g ad st
 | [], N, Rt, X, ex, g, ad, st, h => ws_nil h
 | s :: ss, N, Rt, X, ex, g, ad, st, h => ws_cons' (H s _ _ _ _ _ _ _ h) fun g' ad' st' q => exl_sound H ss N Rt X ex g' ad' st' q
theorem exs_sound {n : Nat} (C : CxOk G cx) (O : AOk cx A (r + 1)) (hT : TabsOk G.K T) (hΓ : ∀ f, SoundF G r f (Γ f)) (hD : bb = false → cx.D = []) :
  ∀ k ss N Rt X ex g ad st, exs T Γ n bb ⟨cx.envF.scope, none⟩ k ss N Rt X st → WS G cx A ex (execs ss cx.envF) N Rt X g ad st
 | 0, ss, N, Rt, X, ex, g, ad, st, h => h.elim
 | k + 1, ss, N, Rt, X, ex, g, ad, st, h => exl_sound (fun s N Rt X ex g ad st h => ex_step C O hT hΓ hD (exs_sound C O hT hΓ hD k) h) ss N Rt X ex g ad st h
end
noncomputable def bodyP (T : Tabs) (Γ : Addr → Ctr) (scope : Scope) (body : List Stmt) (ls : List (Str × V)) (m : Option M) (Q : V → Option M → Prop) (X : Str → Prop) : Prop :=
 exs T Γ 40 m.isSome ⟨scope, none⟩ 20 body (fun st => Q .none (mOf m.isSome st)) (fun v o => match o with | some st => Q v (mOf m.isSome st) | none => m.isNone = true ∧ Q v none) X ⟨ls, m.toList⟩
noncomputable def fnChk (scope : Scope) (names : List Str) : Bool :=
 scope.kind == .function && !scope.isCoroutine && !scope.isGenerator && nDup ((cellsFrom 0 scope.names []).map (·.1)) && nDup names && names.all fun x => scope.names.lookup x == some .local || scope.names.lookup x == some .cell
theorem zip_fst : ∀ {ns : List Str} {α : Type} {vs : List α}, ns.length = vs.length → (ns.zip vs).map (·.1) = ns
 | [], _, [], _ => rfl
 | n :: ns, _, v :: vs, h => by rw [List.zip_cons_cons, map_cons, zip_fst (by simpa using h)]
theorem step_fn {T : Tabs} (hT : TabsOk G.K T) (hΓ : ∀ f, SoundF G r f (Γ f)) {f : Addr} {fo : Obj} {name qual : Str} {params : Arguments} {body : List Stmt} {scope : Scope} {dV kV doc pm cdv ct : Value} {an : Option Addr} {φ : Ctr}
  (ho : G.K.lookup f = some fo) (hd : fo.data = .func (fnX name qual params body scope [] dV kV doc pm an cdv ct)) (hcd : codeIn G.K cdv qual = true) (names : List Str) (hs : fnChk scope names = true) (dls : List (List V))
  (hb : ∀ dl ∈ dls, ∀ (s : Shared) (vals : List Value), G.K.In s.heap → vals.length + dl.length = names.length → ∃ dvals, BindsTo s (fnX name qual params body scope [] dV kV doc pm an cdv ct) ⟨vals, []⟩ (names.zip (vals ++ dvals)) ∧
   ∀ g : PH, (∀ a o, G.b₀.get? a = some o → g a = some o) → VRs G g [] dl dvals)
  (hφ : ∀ vs m Q X, φ vs m Q X → (∃ dl ∈ dls, vs.length + dl.length = names.length) ∧ ∀ dl ∈ dls, vs.length + dl.length = names.length → bodyP T Γ scope body (names.zip (vs ++ dl)) m Q X) : SoundF G (r + 2) f φ := by
 unfold fnChk at hs
 simp only [Bool.and_eq_true, Bool.not_eq_true', beq_iff_eq, all_eq_true, Bool.or_eq_true] at hs
 obtain ⟨⟨⟨⟨⟨h1, h2⟩, h3⟩, h4⟩, h5⟩, h6⟩ := hs
 refine fn_sound ho hd hcd h1 h2 h3 (nDup_nodup h4) (fun vs ls => ∃ dl ∈ dls, vs.length + dl.length = names.length ∧ ls = names.zip (vs ++ dl)) ?_ ?_
 ·intro g ad vs vals s Q X m gb KI rs hq
  obtain ⟨⟨dl, hdl, hl⟩, _⟩ := hφ vs m Q X hq
  obtain ⟨dvals, hB, hv⟩ := hb dl hdl s vals KI (by rw [← rs.len]; exact hl)
  have rs' := rs.append (hv g gb).lift
  have e : names.length = (vals ++ dvals).length := by rw [← rs'.len, length_append]; exact hl.symm
  refine ⟨_, _, ⟨dl, hdl, hl, rfl⟩, Pairs.zip rs', hB, by rw [zip_fst e]; exact nDup_nodup h5, fun n x hx => ?_⟩
  have hx' : x.1 ∈ names := (List.of_mem_zip hx).1
  rcases h6 _ hx' with q | q
  ·exact .inl q
  ·exact .inr ⟨q, cellsFrom_some q⟩
 ·rintro cx A g b vs ls Q X C O hsc hD ⟨dl, hdl, hl, rfl⟩ hq
  have hP := (hφ vs _ Q X hq).2 dl hdl hl
  subst hsc
  have hbb : (b.map (·.1)).isSome = b.isSome := by cases b <;> rfl
  unfold bodyP at hP
  rw [hbb] at hP
  have key := exs_sound (r := r) C O hT hΓ (fun q => by rw [hD]; cases b with | none => rfl | some _ => cases q) 20 body _ _ X [] g (borA b) _ hP
  intro s Q' E' R hg kn kr kl ke
  refine key s Q' E' R hg kn kr (fun v val g' s' S rv q I => kl v val g' s' S rv ?_ I) ke
  refine ⟨?_, q.2⟩
  cases b with
  | none => rfl
  | some _ => cases q.1
end
noncomputable def glTab : List (Str × Gl) := List.map (fun p => (ofString p.1, p.2)) ([("Corrupt", Gl.exc 28), ("Misused", Gl.exc 28), ("number_of", Gl.fn 63), ("octets_of", Gl.fn 68), ("text_octets", Gl.fn 73), ("octets_text", Gl.fn 78), ("Sink", Gl.cls 92), ("Cursor", Gl.cls 142), ("MAGIC", Gl.int 1953654117), ("VERSION", Gl.int 1), ("MOST_PARITY", Gl.int 3), ("MOST_CHILDREN", Gl.int 32), ("NUMBERS", Gl.int 4294967296),
 ("Node", Gl.cls 193), ("Config", Gl.cls 220), ("sorts", Gl.fn 239), ("number_of_disks", Gl.fn 246), ("disk_node", Gl.fn 253), ("node_of", Gl.fn 258), ("plan_of", Gl.fn 263), ("disks_of", Gl.fn 270), ("config_of_plans", Gl.fn 276), ("all_disks", Gl.fn 283), ("put_node", Gl.fn 290), ("config_octets", Gl.fn 297), ("read_node", Gl.fn 302), ("config_of", Gl.fn 307),
 ("_law_disks", Gl.fn 312), ("_law_plan", Gl.fn 319), ("_law_is_disk", Gl.fn 326), ("_law_guids", Gl.fn 331), ("_law_is_plan", Gl.fn 336), ("_law_number", Gl.fn 341), ("_law_digits", Gl.fn 346), ("_law_octets", Gl.fn 351), ("_law_take", Gl.fn 356), ("_law_node", Gl.fn 361), ("_law_read", Gl.fn 366), ("_law_told", Gl.fn 373), ("_law_made", Gl.fn 380), ("_law_is_read", Gl.fn 387), ("law", Gl.fn 392)] : List (String × Gl))
noncomputable def mtTab : List ((Str × Str) × Addr) := List.map (fun p => ((ofString p.1.1, ofString p.1.2), p.2)) ([(("Sink", "number"), 99), (("Sink", "put"), 106), (("Sink", "text"), 113), (("Sink", "whole"), 120), (("Cursor", "left"), 149), (("Cursor", "take"), 156), (("Cursor", "number"), 163), (("Cursor", "text"), 170), (("Node", "plain"), 198), (("Config", "plain"), 225)] : List ((String × String) × Addr))
noncomputable def fdTab : List (Str × Str) := List.map (fun p => (ofString p.1, ofString p.2)) ([("Sink", "octets"), ("Cursor", "octets"), ("Cursor", "at"), ("Node", "sort"), ("Node", "guid"), ("Node", "children"), ("Node", "parity"), ("Config", "name"), ("Config", "guid"), ("Config", "tops"), ("Config", "edition")] : List (String × String))
noncomputable def theT : Tabs := ⟨fun x => (glTab.lookup x).getD .no, fun c x => mtTab.lookup (c, x), fun c x => fdTab.contains (c, x), fun c x => fdTab.contains (c, x)⟩
noncomputable def refT (o : Option (Option Value)) (f : Addr → Bool) : Bool := match o with
 | some (some (.ref a)) => f a
 | _ => false
noncomputable def intT (o : Option (Option Value)) (i : Int) : Bool := match o with
 | some (some (.int j _)) => i == j
 | _ => false
theorem refT_i {o : Option (Option Value)} {f : Addr → Bool} (h : refT o f = true) : ∃ a, o = some (some (.ref a)) ∧ f a = true := by
 cases o with
 | none => cases h
 | some o => cases o with
  | none => cases h
  | some v => cases v with
   | ref a => exact ⟨a, rfl, h⟩
   | _ => cases h
theorem intT_i {o : Option (Option Value)} {i : Int} (h : intT o i = true) : ∃ t, o = some (some (.int i t)) := by
 cases o with
 | none => cases h
 | some o => cases o with
  | none => cases h
  | some v => cases v with
   | int j t => exact ⟨t, by rw [show i = j from eq_of_beq h]⟩
   | _ => cases h
noncomputable def glChk (K : Frag) (p : Str × Gl) : Bool := match p.2 with
 | .int i => intT (nsIn K mainGlobals p.1) i
 | .fn f => refT (nsIn K mainGlobals p.1) fun a => a == f && keepIn K (.ref f)
 | .cls fI => refT (nsIn K mainGlobals p.1) fun a => makesIn K a && findIn K (.ref a) "__init__" == some (some (.ref fI)) && typeIn K (.ref fI) == some (.type "function") && keepIn K (.ref a)
 | .exc fI => refT (nsIn K mainGlobals p.1) fun a => (a == 44 || a == 56) && fI == 28 && ktsIn K a "BaseException"
 | .no => false
theorem gl_ok (P : Params) : glTab.all (glChk (theK P)) = true := by kernel_rfl
theorem mt_ok (P : Params) : mtTab.all (fun p => methodOk (theK P) p.1.1 p.1.2 == some p.2) = true := by kernel_rfl
theorem fd_ok (P : Params) : fdTab.all (fun p => fieldOk (theK P) p.1 p.2 && setOk (theK P) p.1 p.2) = true := by kernel_rfl
noncomputable def biNames : List Str := List.map ofString ["len", "isinstance", "ord", "chr", "max", "min", "sum", "all", "range", "bytes", "list", "tuple", "set", "int", "bool", "enumerate", "Exception"]
theorem bi_ok (P : Params) : biNames.all (fun x => nsIn (theK P) mainGlobals x == some none) = true := by kernel_rfl
theorem excC_of {C N : Addr} {nm : String} {t2 t3 m : Nat} (h : (theK P).lookup C = some (excClassObj (ofString nm) (ofString nm) C N [.ref 31] [.ref 31, .type "Exception", .type "BaseException", .type "object"] true [] [] false none none (some (.ref m)) none (some (.str (ofString nm) t2)) (some (.str (ofString nm) t3)) (some (.bool true)) "Exception.__new__"))
  (h1 : findIn (theK P) (.ref C) "__init__" = some (some (.ref 28))) (h2 : findIn (theK P) (.ref C) "__setattr__" = some (some (.builtin "object.__setattr__"))) (h3 : takerIn (theK P) C "why" = some none) (h4 : keepIn (theK P) (.ref C) = true) : ExcC (theK P) C 28 :=
 ⟨⟨_, _, _, _, _, _, _, _, _, _, _, _, _, _, _, h⟩, h1, by kernel_rfl, h2, h3, h4⟩
theorem exc44 (P : Params) : ExcC (theK P) 44 28 := excC_of (nm := "Corrupt") (N := 43) (t2 := 218) (t3 := 226) (m := 35) (by kernel_rfl) (by kernel_rfl) (by kernel_rfl) (by kernel_rfl) (by kernel_rfl)
theorem exc56 (P : Params) : ExcC (theK P) 56 28 := excC_of (nm := "Misused") (N := 55) (t2 := 234) (t3 := 242) (m := 47) (by kernel_rfl) (by kernel_rfl) (by kernel_rfl) (by kernel_rfl) (by kernel_rfl)
theorem gl_look {x : Str} {v : Gl} (h : theT.gl x = v) (hv : v ≠ .no) : glChk (theK P) (x, v) = true := by
 have h' : (glTab.lookup x).getD .no = v := h
 cases e : glTab.lookup x with
 | none => rw [e] at h'; exact (hv h'.symm).elim
 | some u =>
  rw [e] at h'
  obtain rfl : u = v := h'
  exact lookup_all (Pr := fun a b => glChk (theK P) (a, b) = true) (fun p hp => all_eq_true.mp (gl_ok P) p hp) e
theorem bi_look {x : Str} (h : biNames.contains x = true) : nsIn (theK P) mainGlobals x = some none :=
 eq_of_beq (all_eq_true.mp (bi_ok P) x (by simpa using h))
theorem biOf_in {x : Str} {b : Bi} (h : biOf x = some b) : biNames.contains x = true := lookup_all (Pr := fun x _ => biNames.contains x = true) (all_eq_true.mp (show biTab.all (fun p => biNames.contains p.1) = true by decide +kernel)) h
theorem tyOf_in {x : Str} {b : String} (h : tyOf x = some b) : biNames.contains x = true := lookup_all (Pr := fun x _ => biNames.contains x = true) (all_eq_true.mp (show tyTab.all (fun p => biNames.contains p.1) = true by decide +kernel)) h
theorem fd_look {c x : Str} (h : fdTab.contains (c, x) = true) : fieldOk (theK P) c x = true ∧ setOk (theK P) c x = true := by
 have := all_eq_true.mp (fd_ok P) (c, x) (by simpa using h)
 simpa using this
theorem and_tt {a b : Bool} (h : (a && b) = true) : a = true ∧ b = true := Bool.and_eq_true_iff.mp h
theorem tabs_ok (P : Params) : TabsOk (theK P) theT where
 int := fun x i h => intT_i (gl_look (P := P) h (by intro e; cases e))
 fn := fun x f h => by
  obtain ⟨a, e, q⟩ := refT_i (f := fun a => a == f && keepIn (theK P) (.ref f)) (gl_look (P := P) h (by intro e; cases e))
  have q := and_tt q
  rw [eq_of_beq q.1] at e
  exact ⟨e, q.2⟩
 cls := fun x f h => by
  obtain ⟨a, e, q⟩ := refT_i (f := fun a => makesIn (theK P) a && findIn (theK P) (.ref a) "__init__" == some (some (.ref f)) && typeIn (theK P) (.ref f) == some (.type "function") && keepIn (theK P) (.ref a)) (gl_look (P := P) h (by intro e; cases e))
  have q := and_tt q
  have q1 := and_tt q.1
  have q2 := and_tt q1.1
  exact ⟨a, e, q2.1, eq_of_beq q2.2, eq_of_beq q1.2, q.2⟩
 exc := fun x f h => by
  obtain ⟨a, e, q⟩ := refT_i (f := fun a => (a == 44 || a == 56) && f == 28 && ktsIn (theK P) a "BaseException") (gl_look (P := P) h (by intro e; cases e))
  have q := and_tt q
  have q1 := and_tt q.1
  obtain rfl : f = 28 := eq_of_beq q1.2
  refine ⟨a, e, ?_, q.2⟩
  rcases Bool.or_eq_true_iff.mp q1.1 with z | z
  ·rw [eq_of_beq z]; exact exc44 P
  ·rw [eq_of_beq z]; exact exc56 P
 bi := fun x b _ h => bi_look (biOf_in h)
 ty := fun x b _ h => bi_look (tyOf_in h)
 enum := bi_look (by decide +kernel)
 excN := bi_look (by decide +kernel)
 excB := by decide +kernel
 excI := by kernel_rfl
 excS := by kernel_rfl
 mt := fun c x f h => by
  have := lookup_all (Pr := fun a b => (methodOk (theK P) a.1 a.2 == some b) = true) (fun p hp => all_eq_true.mp (mt_ok P) p hp) (h : mtTab.lookup (c, x) = some f)
  exact eq_of_beq this
 fd := fun c x h => (fd_look h).1
 so := fun c x h => (fd_look h).2
noncomputable def fB : Stmt → List Stmt
 | .FunctionDef _ _ b .. => b
 | _ => []
noncomputable def fS : Stmt → Scope
 | .FunctionDef _ _ _ _ _ _ sc .. => sc
 | _ => default
noncomputable def bd (s : Stmt) (Γ : Addr → Ctr) (names : List String) (vs : List V) (m : Option M) (Q : V → Option M → Prop) (X : Str → Prop) : Prop := bodyP theT Γ (fS s) (fB s) ((names.map ofString).zip vs) m Q X
noncomputable abbrev sV (s : String) : V := .str (ofString s)
noncomputable def mkNode (sort guid : V) (ch : List V) (par : V) : V := .inst (ofString "Node") [ofString "sort", ofString "guid", ofString "children", ofString "parity"] [sort, guid, .lst ch, par]
noncomputable def k28 : Ctr := fun vs m Q X => ∃ s c, vs = [.cel 0, .str s] ∧ m = some (.exc c false) ∧ (c = ofString "Corrupt" ∨ c = ofString "Misused") ∧ Q .none (some (.exc c true))
theorem k28_mk (s) (c) (e0 : vs = [.cel 0, .str s]) (e1 : m = some (.exc c false)) (e2 : (c = ofString "Corrupt" ∨ c = ofString "Misused")) (e3 : Q .none (some (.exc c true))) : k28 vs m Q X := ⟨s, c, e0, e1, e2, e3⟩
theorem k28_c {s c : Str} (hc : c = ofString "Corrupt" ∨ c = ofString "Misused") (h : Q .none (some (.exc c true))) : k28 [.cel 0, .str s] (some (.exc c false)) Q X := ⟨s, c, rfl, rfl, hc, h⟩
noncomputable def k193 : Ctr := fun vs m Q X => m = some (.inst (ofString "Node") []) ∧ ((∃ s g ch p, vs = [.cel 0, .str s, .int g, .lst ch, .int p] ∧ ch.length ≤ lstLine ∧ Q .none (some (.inst (ofString "Node") [(ofString "sort", .str s), (ofString "guid", .int g), (ofString "children", .lst ch), (ofString "parity", .int p)]))) ∨
 ∃ s g, vs = [.cel 0, .str s, .int g] ∧ Q .none (some (.inst (ofString "Node") [(ofString "sort", .str s), (ofString "guid", .int g), (ofString "children", .lst []), (ofString "parity", .int 0)])))
theorem k193_5 {s : Str} {g p : Int} {ch : List V} (hl : ch.length ≤ lstLine) (h : Q .none (some (.inst (ofString "Node") [(ofString "sort", .str s), (ofString "guid", .int g), (ofString "children", .lst ch), (ofString "parity", .int p)]))) : k193 [.cel 0, .str s, .int g, .lst ch, .int p] (some (.inst (ofString "Node") [])) Q X := ⟨rfl, .inl ⟨s, g, ch, p, rfl, hl, h⟩⟩
theorem k193_3 {s : Str} {g : Int} (h : Q .none (some (.inst (ofString "Node") [(ofString "sort", .str s), (ofString "guid", .int g), (ofString "children", .lst []), (ofString "parity", .int 0)]))) : k193 [.cel 0, .str s, .int g] (some (.inst (ofString "Node") [])) Q X := ⟨rfl, .inr ⟨s, g, rfl, h⟩⟩
theorem chk_mk {b : Bool} {P : Prop} (hb : b = true) (h : P) : chk b P := by subst hb; exact h
theorem compT_map' {α : Type} {FE : List (Str × V) → QV → DS → Prop} {g : α → List (Str × V)} {f : α → V} : ∀ {xs : List α} {Q : List V → DS → Prop} {st : DS},
  (∀ x ∈ xs, ∀ K : QV, K (f x) st → FE (g x) K st) → (∀ x ∈ xs, (f x).isCel = false) → Q (xs.map f) st → compT FE (xs.map g) Q st
 | [], _, _, _, _, h => h
 | x :: xs, Q, st, h1, h2, h => h1 x (.head _) _ (by
   refine chk_mk (b := !(f x).isCel) (by rw [h2 x (.head _)]; rfl) ?_
   exact compT_map' (Q := fun vs st => Q (f x :: vs) st) (fun y hy => h1 y (.tail _ hy)) (fun y hy => h2 y (.tail _ hy)) h)
theorem compT_map {α : Type} {FE : List (Str × V) → QV → DS → Prop} {g : α → List (Str × V)} {f : α → V} {xs : List α} {Q : List V → DS → Prop} {st : DS}
  (h1 : ∀ x ∈ xs, ∀ K : QV, K (f x) st → FE (g x) K st) (h2 : ∀ x ∈ xs, (f x).isCel = false) (h : Q (xs.map f) st) : compW FE (xs.map g) Q st := ⟨compT_map' h1 h2 h⟩
theorem ca {a : Addr} {k : Ctr} (e : Γ a = k) (h : k vs m Q X) : Γ a vs m Q X := e ▸ h
theorem caV {φ k : Ctr} (e : φ = k) {st : DS} {Q : V → DS → Prop} (ec : celsOf vs = []) (h : k vs none (fun v _ => Q v st) X) : callV φ vs st Q X := by unfold callV; rw [ec, e]; exact h
theorem kr {A B : Prop} (e : A = B) (h : A) : B := e ▸ h
theorem chk_le_mk {n m : Nat} {P : Prop} (hb : n ≤ m) (h : P) : chk (Nat.ble n m) P := chk_mk (Nat.ble_eq_true_of_le hb) h
theorem lmm {α β : Type} {FB : (DS → Prop) → (V → Option DS → Prop) → DS → Prop} {f : α → β} {g : β → List (Str × V)} {xs : List α} {st : DS} (h : loopW FB (xs.map (g ∘ f)) N Rt st) : loopW FB ((xs.map f).map g) N Rt st := by rw [map_map]; exact h
theorem cmm {α β : Type} {FE : List (Str × V) → (V → DS → Prop) → DS → Prop} {f : α → β} {g : β → List (Str × V)} {xs : List α} {Q : List V → DS → Prop} {st : DS} (h : compW FE (xs.map (g ∘ f)) Q st) : compW FE ((xs.map f).map g) Q st := by rw [map_map]; exact h
theorem full_e {FE : List (Str × V) → (V → DS → Prop) → DS → Prop} {bs bs' : List (List (Str × V))} {Q : List V → DS → Prop} {st : DS} (e : bs = bs') (hb : bs'.length ≤ lstLine) (h : compW FE bs' Q st) : chk (Nat.ble bs.length lstLine) (compW FE bs Q st) := by subst e; exact chk_mk (Nat.ble_eq_true_of_le hb) h
theorem cmL {α β : Type} {FE : List (Str × V) → (V → DS → Prop) → DS → Prop} {f : α → β} {g : β → List (Str × V)} {xs : List α} {Q : List V → DS → Prop} {st : DS} (hb : xs.length ≤ lstLine) (h : compW FE (xs.map (g ∘ f)) Q st) : chk (Nat.ble ((xs.map f).map g).length lstLine) (compW FE ((xs.map f).map g) Q st) := chk_mk (Nat.ble_eq_true_of_le (by rw [length_map, length_map]; exact hb)) (cmm h)
theorem cL {n : Nat} {P : Prop} (h : P) (hb : n ≤ lstLine := by (try simp only [length_map, length_append, length_cons, length_nil, length_range, List.length_zipIdx, Array.length_toList]); unfold Mine.lstLine; omega) : chk (Nat.ble n lstLine) P := chk_mk (Nat.ble_eq_true_of_le hb) h
theorem oE {α : Type} {o : Option α} {a : α} {P : α → Prop} (e : o = some a) (h : P a) : oElim o P := by subst e; exact h
theorem eqT_mk {a b : V} {mu : List M} {Q : Bool → Prop} {x y : PyData} {c : Bool} (e1 : toPyM mu a = some x) (e2 : toPyM mu b = some y) (s1 : SeqAt.shaped x = true) (s2 : SeqAt.shaped y = true) (e : PyData.eqv x y = c) (h : Q c) : cmpT .Eq a b mu Q := by
 show eqT a b mu Q
 unfold eqT
 rw [e1, e2]
 exact chk_mk (Bool.and_eq_true_iff.mpr ⟨shF_of s1, shF_of s2⟩) (((eqF_eq x y).trans e).symm ▸ h)
theorem neT_mk {a b : V} {mu : List M} {Q : Bool → Prop} {x y : PyData} {c : Bool} (e1 : toPyM mu a = some x) (e2 : toPyM mu b = some y) (s1 : SeqAt.shaped x = true) (s2 : SeqAt.shaped y = true) (e : PyData.eqv x y = c) (h : Q (!c)) : cmpT .NotEq a b mu Q :=
 oE e1 (oE e2 (chk_mk (Bool.and_eq_true_iff.mpr ⟨shF_of s1, shF_of s2⟩) (((eqF_eq x y).trans e).symm ▸ h)))
theorem intsOf_map {α : Type} (h : α → Int) (l : List α) : intsOf (l.map fun x => .int (h x)) = some (l.map h) := optAll_map (f := intW) (g := fun x => .int (h x)) (k := h) (fun _ => rfl) l
theorem boolsOf_map {α : Type} (h : α → Bool) (l : List α) : boolsOf (l.map fun x => .bool (h x)) = some (l.map h) := optAll_map (f := boolW) (g := fun x => .bool (h x)) (k := h) (fun _ => rfl) l
theorem strsOf_map {α : Type} (h : α → Str) (l : List α) : strsOf (l.map fun x => .str (h x)) = some (l.map h) := optAll_map (f := strW) (g := fun x => .str (h x)) (k := h) (fun _ => rfl) l
theorem enumF_map {α : Type} (a b : Str) (h : α → V) : ∀ (l : List α) (k : Nat), enumF a b k (l.map h) = (l.zipIdx k).map fun p => [(a, .int ((p.2 : Nat) : Int)), (b, h p.1)]
 | [], _ => rfl
 | x :: l, k => by
  rw [map_cons, List.zipIdx_cons, map_cons, enumF, enumF_map a b h l]
theorem enumF_length {α : Type} (a b : Str) (l : List V) (k : Nat) : (enumF a b k l).length = l.length := enumF_len a b k l
noncomputable def numLE : List UInt8 → Int
 | [] => 0
 | c :: l => (c.toNat : Int) + 256 * numLE l
theorem numLE_sum : ∀ (l : List UInt8) (k : Nat), ((l.zipIdx k).map fun p => (p.1.toNat : Int) * 2 ^ (8 * ((p.2 : Nat) : Int)).toNat).sum = 2 ^ (8 * k) * numLE l
 | [], k => by simp [numLE]
 | c :: l, k => by
  rw [List.zipIdx_cons, map_cons, List.sum_cons, numLE_sum l (k + 1), numLE]
  have e1 : (8 * ((k : Nat) : Int)).toNat = 8 * k := by omega
  have e2 : (2 : Int) ^ (8 * (k + 1)) = 2 ^ (8 * k) * 256 := by rw [Nat.mul_add, Int.pow_add]; rfl
  simp only
  rw [e1, e2, Int.mul_add, Int.mul_assoc, Int.mul_comm (c.toNat : Int)]
noncomputable def k63 : Ctr := fun vs m Q X => ∃ b, vs = [.bytes b] ∧ m = none ∧ b.size ≤ lstLine ∧ Q (.int (numLE b.toList)) none
theorem powK_mk {y : Int} (h1 : 0 ≤ y) (h2 : y ≤ 1000000) : powK y = true := natLt_iff.mpr ⟨h1, by omega⟩
theorem smallN_mk {x : Int} (h : x.natAbs < 2 ^ 64) : smallN x = true := Nat.ble_eq_true_of_le h
theorem smallI_mk {x : Int} (h1 : -(2 ^ 63) < x) (h2 : x < 2 ^ 63) : smallI x = true := absLt_iff.mpr (by omega)
theorem or_t {a b : Bool} (h : b = true) : (a || b) = true := by rw [h, Bool.or_true]
theorem or_f {a b : Bool} (h : a = true) : (a || b) = true := by rw [h, Bool.true_or]
theorem dec_mk {p P : Prop} [Decidable p] (h : p) (q : P) : chk (decide p) P := chk_mk (decide_eq_true h) q
theorem rng_mk {a b : Int} (h1 : -(2 ^ 62) ≤ a) (h2 : a < 2 ^ 62) (h3 : -(2 ^ 62) ≤ b) (h4 : b < 2 ^ 62) : rngB (.rng a b) = true := by
 show (absLt a (2 ^ 62) && absLt b (2 ^ 62)) = true
 rw [absLt_iff.mpr ⟨h1, h2⟩, absLt_iff.mpr ⟨h3, h4⟩]; rfl
theorem loop_fold {α σ : Type} {FB : (DS → Prop) → QR → DS → Prop} {g : α → List (Str × V)} {Rt : QR} {S : σ → DS} {step : σ → α → σ} (h : ∀ s x N, N (S (step s x)) → FB N Rt (setAll (S s) (g x))) : ∀ (xs : List α) (s : σ), N (S (xs.foldl step s)) → loopB FB (xs.map g) N Rt (S s)
 | [], s, hn => hn
 | x :: xs, s, hn => h s x _ (loop_fold h xs (step s x) hn)
theorem loop_start {α σ : Type} {FB : (DS → Prop) → QR → DS → Prop} {g : α → List (Str × V)} {Rt : QR} {S : σ → DS} {step : σ → α → σ} {st : DS} (s : σ) (h : ∀ s x N, N (S (step s x)) → FB N Rt (setAll (S s) (g x))) (h0 : ∀ x, setAll st (g x) = setAll (S s) (g x)) : ∀ (xs : List α), (xs = [] → N st) → (xs ≠ [] → N (S (xs.foldl step s))) → loopB FB (xs.map g) N Rt st
 | [], hn, _ => hn rfl
 | x :: xs, _, hn => by
  show FB _ _ (setAll st (g x))
  rw [h0]
  exact h s x _ (loop_fold h xs (step s x) (hn (by intro z; cases z)))
theorem loop_start2 {α σ : Type} {FB : (DS → Prop) → QR → DS → Prop} {g : α → List (Str × V)} {Rt : QR} {S : σ → DS} {step : σ → α → σ} {st : DS} (s : σ) (h : ∀ s x N, N (S (step s x)) → FB N Rt (setAll (S s) (g x))) (h0 : ∀ x, setAll st (g x) = setAll (S s) (g x)) (xs : List α) (hn : xs = [] → N st) (hN : xs ≠ [] → N (S (xs.foldl step s))) : loopW FB (xs.map g) N Rt st := ⟨loop_start s h h0 xs hn hN⟩
theorem oE' {α : Type} {o : Option α} (a : α) {P : α → Prop} (e : o = some a) (h : P a) : oElim o P := by subst e; exact h
theorem loop_preA {α : Type} {FB : (DS → Prop) → QR → DS → Prop} {g : α → List (Str × V)} {Rt : QR} {S : List α → DS} {xs : List α} (h : ∀ pre x post, pre ++ x :: post = xs → ∀ N, N (S (pre ++ [x])) → FB N Rt (setAll (S pre) (g x))) :
  ∀ (post pre : List α), pre ++ post = xs → N (S xs) → loopB FB (post.map g) N Rt (S pre)
 | [], pre, e, hn => by
  rw [append_nil] at e
  subst e; exact hn
 | x :: post, pre, e, hn => h pre x post e _ (loop_preA h post (pre ++ [x]) (by rw [append_assoc]; exact e) hn)
theorem loop_pre' {α : Type} {FB : (DS → Prop) → QR → DS → Prop} {g : α → List (Str × V)} {Rt : QR} (S : List α → DS) {st : DS} {xs : List α} (h : ∀ pre x post, pre ++ x :: post = xs → ∀ N, N (S (pre ++ [x])) → FB N Rt (setAll (S pre) (g x))) (h0 : ∀ x, setAll st (g x) = setAll (S []) (g x)) (hn : xs = [] → N st) (hN : xs ≠ [] → N (S xs)) : loopB FB (xs.map g) N Rt st := by
 cases xs with
 | nil => exact hn rfl
 | cons x xs =>
  show FB _ _ (setAll st (g x))
  rw [h0]
  exact h [] x xs rfl _ (loop_preA h xs [x] rfl (hN (by intro z; cases z)))
theorem loop_pre {α : Type} {FB : (DS → Prop) → QR → DS → Prop} {g : α → List (Str × V)} {Rt : QR} (S : List α → DS) {st : DS} {xs : List α} (h : ∀ pre x post, pre ++ x :: post = xs → ∀ N, N (S (pre ++ [x])) → FB N Rt (setAll (S pre) (g x))) (h0 : ∀ x, setAll st (g x) = setAll (S []) (g x)) (hn : xs = [] → N st) (hN : xs ≠ [] → N (S xs)) : loopW FB (xs.map g) N Rt st := ⟨loop_pre' S h h0 hn hN⟩
theorem compT_mapX' {α : Type} {FE : List (Str × V) → QV → DS → Prop} {g : α → List (Str × V)} {f : α → V} (ok : α → Bool) : ∀ {xs : List α} {Q : List V → DS → Prop} {st : DS},
  (∀ x ∈ xs, ∀ K : QV, (ok x = true → K (f x) st) → FE (g x) K st) → (∀ x ∈ xs, (f x).isCel = false) → (xs.all ok = true → Q (xs.map f) st) → compT FE (xs.map g) Q st
 | [], _, _, _, _, h => h rfl
 | x :: xs, Q, st, h1, h2, h => h1 x (.head _) _ fun o => by
   refine chk_mk (b := !(f x).isCel) (by rw [h2 x (.head _)]; rfl) ?_
   exact compT_mapX' ok (Q := fun vs st => Q (f x :: vs) st) (fun y hy => h1 y (.tail _ hy)) (fun y hy => h2 y (.tail _ hy)) fun o' => h (by rw [List.all_cons, o, o']; rfl)
theorem compT_mapX {α : Type} {FE : List (Str × V) → QV → DS → Prop} {g : α → List (Str × V)} {f : α → V} (ok : α → Bool) {xs : List α} {Q : List V → DS → Prop} {st : DS}
  (h1 : ∀ x ∈ xs, ∀ K : QV, (ok x = true → K (f x) st) → FE (g x) K st) (h2 : ∀ x ∈ xs, (f x).isCel = false) (h : xs.all ok = true → Q (xs.map f) st) : compW FE (xs.map g) Q st := ⟨compT_mapX' ok h1 h2 h⟩
theorem lastD_app {α : Type} (l : List α) (x d : α) : (l ++ [x]).getLastD d = x := by simp [List.getLastD_eq_getLast?]
theorem b63 {b : Array UInt8} (hb : b.size ≤ lstLine) (h : Q (.int (numLE b.toList)) none) : bd (stN 5) Γ ["octets"] [.bytes b] none Q X := by
 show chk _ (compW _ (enumF _ _ 0 (b.toList.map fun c => .int (c.toNat : Int))) _ _)
 rw [enumF_map, length_map, List.length_zipIdx, Array.length_toList]
 refine chk_le_mk (m := lstLine) hb (compT_map (f := fun p => .int ((p.1.toNat : Int) * 2 ^ (8 * ((p.2 : Nat) : Int)).toNat)) (fun p hp K hk => ?_) (fun _ _ => rfl) ?_)
 ·refine chk_mk ?_ (chk_mk ?_ hk)
  ·rw [show smallI 8 = true from rfl, Bool.or_true]
  ·have h1 := (List.mem_zipIdx hp).2.1
   rw [Array.length_toList] at h1
   have h2 : p.1.toNat < 256 := p.1.toNat_lt
   unfold lstLine at hb
   rw [Bool.and_eq_true]
   exact ⟨natLt_iff.mpr (by omega), Nat.ble_eq_true_of_le (by omega)⟩
 ·refine oE (intsOf_map _ _) ?_
  show Q (.int _) none
  rw [numLE_sum b.toList 0]
  simpa using h
noncomputable abbrev curM (b : Array UInt8) (a : Int) : M := .inst (ofString "Cursor") [(ofString "octets", .bytes b), (ofString "at", .int a)]
noncomputable abbrev iV (l : List Int) : V := .lst (l.map .int)
noncomputable def k142 : Ctr := fun vs m Q X => (m = some (.inst (ofString "Cursor") [])) ∧ ∃ b, vs = [.cel 0, .bytes b] ∧ Q .none (some (curM b 0))
theorem k142_c {b : Array UInt8} (h : Q .none (some (curM b 0))) : k142 [.cel 0, .bytes b] (some (.inst (ofString "Cursor") [])) Q X := ⟨rfl, b, rfl, h⟩
noncomputable def k149 : Ctr := fun vs m Q X => ∃ b a, vs = [.cel 0] ∧ m = some (curM b a) ∧ b.size ≤ lstLine ∧ Q (.int ((b.size : Int) - a)) m
theorem k149_mk (b) (a) (e0 : vs = [.cel 0]) (e1 : m = some (curM b a)) (e2 : b.size ≤ lstLine) (e3 : Q (.int ((b.size : Int) - a)) m) : k149 vs m Q X := ⟨b, a, e0, e1, e2, e3⟩
noncomputable def k220 : Ctr := fun vs m Q X => (m = some (.inst (ofString "Config") [])) ∧ ∃ n g ts e, vs = [.cel 0, .str n, .int g, .lst ts, .int e] ∧ ts.length ≤ lstLine ∧
   Q .none (some (.inst (ofString "Config") [(ofString "name", .str n), (ofString "guid", .int g), (ofString "tops", .lst ts), (ofString "edition", .int e)]))
theorem k220_c {n : Str} {g e : Int} {ts : List V} (hl : ts.length ≤ lstLine) (h : Q .none (some (.inst (ofString "Config") [(ofString "name", .str n), (ofString "guid", .int g), (ofString "tops", .lst ts), (ofString "edition", .int e)]))) : k220 [.cel 0, .str n, .int g, .lst ts, .int e] (some (.inst (ofString "Config") [])) Q X := ⟨rfl, n, g, ts, e, rfl, hl, h⟩
noncomputable def k239 : Ctr := fun vs m Q X => match vs, m with
 | [], none => Q (.lst [sV "disk", sV "mirror", sV "raidz"]) none
 | _, _ => False
noncomputable def nStep (f g : Int) : Int := (f * 31 + g).fmod 4294967296
noncomputable def k246 : Ctr := fun vs m Q X => ∃ gs p, vs = [iV gs, .int p] ∧ m = none ∧ (0 ≤ p ∧ p ≤ 255) ∧ Q (.int (gs.foldl nStep (17 + p))) none
theorem k246_mk (gs) (p) (e0 : vs = [iV gs, .int p]) (e1 : m = none) (e2 : (0 ≤ p ∧ p ≤ 255)) (e3 : Q (.int (gs.foldl nStep (17 + p))) none) : k246 vs m Q X := ⟨gs, p, e0, e1, e2, e3⟩
theorem b142 {b : Array UInt8} (h : Q .none (some (curM b 0))) : bd (cmN 10 0) Γ ["self", "octets", "at"] [.cel 0, .bytes b, .int 0] (some (.inst (ofString "Cursor") [])) Q X :=
 by (exact h)
theorem b149 {b : Array UInt8} {a : Int} (hb : b.size ≤ lstLine) (h : Q (.int ((b.size : Int) - a)) (some (curM b a))) : bd (cmN 10 1) Γ ["self"] [.cel 0] (some (curM b a)) Q X :=
 by (refine chk_le_mk hb ?_; exact h)
theorem b239 (h : Q (.lst [sV "disk", sV "mirror", sV "raidz"]) none) : bd (stN 19) Γ [] [] none Q X := by (exact h)
theorem b193 {s : Str} {g p : Int} {ch : List V} (hc : ch.length ≤ lstLine)
  (h : Q .none (some (.inst (ofString "Node") [(ofString "sort", .str s), (ofString "guid", .int g), (ofString "children", .lst ch), (ofString "parity", .int p)]))) :
  bd (cmN 17 0) Γ ["self", "sort", "guid", "children", "parity"] [.cel 0, .str s, .int g, .lst ch, .int p] (some (.inst (ofString "Node") [])) Q X :=
 by (refine chk_le_mk hc ?_; exact h)
theorem b193' {s : Str} {g p : Int} {X : Str → Prop}
  (h : Q .none (some (.inst (ofString "Node") [(ofString "sort", .str s), (ofString "guid", .int g), (ofString "children", .lst []), (ofString "parity", .int p)]))) :
  bd (cmN 17 0) Γ ["self", "sort", "guid", "children", "parity"] [.cel 0, .str s, .int g, .tup [], .int p] (some (.inst (ofString "Node") [])) Q X := by (exact h)
theorem b220 {s : Str} {g p : Int} {ch : List V} (hc : ch.length ≤ lstLine)
  (h : Q .none (some (.inst (ofString "Config") [(ofString "name", .str s), (ofString "guid", .int g), (ofString "tops", .lst ch), (ofString "edition", .int p)]))) :
  bd (cmN 18 0) Γ ["self", "name", "guid", "tops", "edition"] [.cel 0, .str s, .int g, .lst ch, .int p] (some (.inst (ofString "Config") [])) Q X :=
 by (refine chk_le_mk hc ?_; exact h)
theorem b246 {gs : List Int} {p : Int} (hp : 0 ≤ p ∧ p ≤ 255) (h : Q (.int (gs.foldl nStep (17 + p))) none) : bd (stN 20) Γ ["guids", "parity"] [iV gs, .int p] none Q X := by
 refine lmm ?_
 refine loop_start2 (S := fun s : Int × Int => ⟨[(ofString "guids", iV gs), (ofString "parity", .int p), (ofString "found", .int s.1), (ofString "guid", .int s.2)], []⟩) (step := fun s x => (nStep s.1 x, x)) (17 + p, 0) (fun s x N hn => ?_) (fun x => ?_) gs (fun e => ?_) (fun _ => ?_)
 ·exact hn
 ·rfl
 ·subst e
  exact h
 ·show Q (.int _) none
  have : ∀ (l : List Int) (a b : Int), (l.foldl (fun (s : Int × Int) x => (nStep s.1 x, x)) (a, b)).1 = l.foldl nStep a := fun l => by
   induction l with
   | nil => intro a b; rfl
   | cons x l ih => intro a b; exact ih _ _
  rw [this]
  exact h
noncomputable abbrev dskV (g : Int) : V := .tup [sV "disk", .int g]
noncomputable def diskG (a : Int) (k : Nat) : Int := (a.fdiv 3 + 7 * k).fmod 4294967296
noncomputable def disksL (a m : Int) : List Int := (List.range m.toNat).map (diskG a)
noncomputable def k312 : Ctr := fun vs m Q X => ∃ a n, vs = [.int a, .int n] ∧ m = none ∧ (0 ≤ n ∧ n ≤ 100) ∧ Q (.lst ((disksL a n).map dskV)) none
theorem k312_mk (a) (n) (e0 : vs = [.int a, .int n]) (e1 : m = none) (e2 : (0 ≤ n ∧ n ≤ 100)) (e3 : Q (.lst ((disksL a n).map dskV)) none) : k312 vs m Q X := ⟨a, n, e0, e1, e2, e3⟩
theorem b312 {a n : Int} (hn : 0 ≤ n ∧ n ≤ 100) (h : Q (.lst ((disksL a n).map dskV)) none) : bd (stN 32) Γ ["a", "many"] [.int a, .int n] none Q X := by
 refine chk_mk (rng_mk (by omega) (by omega) (by omega) (by omega)) ?_
 show chk _ (compW _ (List.map _ (List.map _ (List.range (n - 0).toNat))) _ _)
 rw [map_map, Int.sub_zero, length_map, length_range]
 refine (chk_le_mk (by unfold lstLine; omega) (compT_map (f := fun k => dskV (diskG a k)) (fun k hk K hK => ?_) (fun _ _ => rfl) ?_))
 ·refine chk_mk (or_t rfl) ?_
  show K (.tup [_, .int ((a.fdiv 3 + 7 * (0 + (k : Int))).fmod 4294967296)]) _
  rw [Int.zero_add]
  exact hK
 ·show Q (.lst _) none
  unfold disksL at h
  rw [map_map] at h
  exact h
noncomputable def digitsL (n : Int) (s : Nat) : List Int := (List.range s).map fun k => (n.fdiv (256 ^ k)).fmod 256
noncomputable def k346 : Ctr := fun vs m Q X => ∃ a n, vs = [.int a, .int n] ∧ m = none ∧ (0 ≤ n ∧ n ≤ 100) ∧ Q (iV (digitsL a n.toNat)) none
theorem k346_mk (a) (n) (e0 : vs = [.int a, .int n]) (e1 : m = none) (e2 : (0 ≤ n ∧ n ≤ 100)) (e3 : Q (iV (digitsL a n.toNat)) none) : k346 vs m Q X := ⟨a, n, e0, e1, e2, e3⟩
theorem b346 {a n : Int} (hn : 0 ≤ n ∧ n ≤ 100) (h : Q (iV (digitsL a n.toNat)) none) : bd (stN 38) Γ ["number", "size"] [.int a, .int n] none Q X := by
 refine chk_mk (rng_mk (by omega) (by omega) (by omega) (by omega)) ?_
 show chk _ (compW _ (List.map _ (List.map _ (List.range (n - 0).toNat))) _ _)
 rw [map_map, Int.sub_zero, length_map, length_range]
 refine (chk_le_mk (by unfold lstLine; omega) (compT_map (f := fun k => .int ((a.fdiv (256 ^ k)).fmod 256)) (fun k hk K hK => ?_) (fun _ _ => rfl) ?_))
 ·have hk' := List.mem_range.mp hk
  refine chk_mk (by rw [show smallN 256 = true from rfl, Bool.and_true]; exact powK_mk (by omega) (by omega)) (chk_mk ?_ ?_)
  ·have : (256 : Int) ^ ((0 + (k : Int)).toNat) ≠ 0 := Int.pow_ne_zero (by decide)
   simpa using this
  ·show K (.int ((a.fdiv (256 ^ (0 + (k : Int)).toNat)).fmod 256)) _
   rw [Int.zero_add, Int.toNat_natCast]
   exact hK
 ·show Q (.lst _) none
  unfold digitsL iV at h
  rw [map_map] at h
  exact h
noncomputable abbrev okG (g : Int) : Prop := 0 ≤ g ∧ g < 4294967296
noncomputable def lawNum (gs : List Int) (p : Int) : Int := ((17 + p) * 31 ^ gs.length + (gs.zipIdx.map fun x => x.1 * 31 ^ ((gs.length : Int) - 1 - (x.2 : Int)).toNat).sum).fmod 4294967296
noncomputable def k341 : Ctr := fun vs m Q X => ∃ gs p, vs = [iV gs, .int p] ∧ m = none ∧ (0 ≤ p ∧ p ≤ 255) ∧ gs.length ≤ 255 ∧ (∀ g ∈ gs, okG g) ∧ Q (.int (lawNum gs p)) none
theorem k341_mk (gs) (p) (e0 : vs = [iV gs, .int p]) (e1 : m = none) (e2 : (0 ≤ p ∧ p ≤ 255)) (e3 : gs.length ≤ 255) (e4 : (∀ g ∈ gs, okG g)) (e5 : Q (.int (lawNum gs p)) none) : k341 vs m Q X := ⟨gs, p, e0, e1, e2, e3, e4, e5⟩
theorem b341 {gs : List Int} {p : Int} (hp : 0 ≤ p ∧ p ≤ 255) (hl : gs.length ≤ 255) (hg : ∀ g ∈ gs, okG g) (h : Q (.int (lawNum gs p)) none) : bd (stN 37) Γ ["guids", "parity"] [iV gs, .int p] none Q X := by
 refine cL ?_
 refine chk_mk ?_ ?_
 ·rw [show smallN 31 = true from rfl, Bool.and_true]; exact powK_mk (by simp only [length_map]; omega) (by simp only [length_map]; omega)
 refine chk_mk (or_t (smallI_mk (by omega) (by omega))) ?_
 show chk _ (compW _ (enumF _ _ 0 (gs.map V.int)) _ _)
 rw [enumF_map]
 refine cL ?_
 refine compT_map (f := fun x => .int (x.1 * 31 ^ ((gs.length : Int) - 1 - (x.2 : Int)).toNat)) (fun x hx K hK => ?_) (fun _ _ => rfl) ?_
 ·have hk := (List.mem_zipIdx hx)
  have hx1 : okG x.1 := hg _ (by rw [hk.2.2]; exact List.getElem_mem _)
  refine cL ?_
  refine chk_mk ?_ ?_
  ·rw [show smallN 31 = true from rfl, Bool.and_true]; exact powK_mk (by simp only [length_map]; omega) (by simp only [length_map]; omega)
  refine chk_mk (or_t (smallI_mk (by omega) (by omega))) ?_
  show K (.int (x.1 * 31 ^ (((gs.map V.int).length : Int) - 1 - (x.2 : Int)).toNat)) _
  rw [length_map]
  exact hK
 ·refine oE (intsOf_map _ _) ?_
  show Q (.int (((17 + p) * 31 ^ (((gs.map V.int).length : Int)).toNat + _).fmod 4294967296)) none
  rw [length_map]
  exact h
noncomputable def k326 : Ctr := fun vs m Q X => m = none ∧ ((∃ g, vs = [dskV g] ∧ Q (.bool (decide (0 ≤ g) && decide (g < 4294967296))) none) ∨ ((∃ l, vs = [.tup [sV "mirror", .lst l]]) ∨ vs = [.tup [sV "disk", .bool true]] ∨ vs = [.tup [sV "disk", sV "a"]]) ∧ Q (.bool false) none)
theorem ite_and {c d : Bool} {P : Bool → Prop} (h : P (c && d)) : ite (c = true) (P d) (P false) := by cases c <;> exact h
theorem b326 {g : Int} (h : Q (.bool (decide (0 ≤ g) && decide (g < 4294967296))) none) : bd (stN 34) Γ ["plan"] [dskV g] none Q X := by
 refine br_dec (fun h0 => ?_) (fun h0 => ?_)
 ·rw [decide_eq_true h0] at h
  exact h
 ·rw [decide_eq_false h0] at h
  exact h
theorem b326a {l : List V} (h : Q (.bool false) none) : bd (stN 34) Γ ["plan"] [.tup [sV "mirror", .lst l]] none Q X := by (exact h)
theorem b326b (h : Q (.bool false) none) : bd (stN 34) Γ ["plan"] [.tup [sV "disk", .bool true]] none Q X := by (exact h)
theorem b326c (h : Q (.bool false) none) : bd (stN 34) Γ ["plan"] [.tup [sV "disk", sV "a"]] none Q X := by (exact h)
inductive Pl where
 | disk (g : Int)
 | mir (gs : List Int)
 | rz (p : Int) (gs : List Int)
 | odd (k : Nat) (a : Int)
noncomputable def oddV (a : Int) : Nat → V
 | 1 => .tup [sV "mirror", .lst [.tup [sV "mirror", .lst ((disksL a 2).map dskV)], .tup [sV "mirror", .lst ((disksL a 2).map dskV)]]]
 | 2 => .tup [sV "disk", .int (-1)]
 | 3 => .tup [sV "disk", .bool true]
 | 5 => .tup [sV "disk", .int 4294967296]
 | 6 => .tup [sV "disk", sV "a"]
 | 7 => .tup [sV "mirror", .int 2]
 | 8 => .tup [sV "ring", .lst []]
 | 9 => .tup [sV "disk"]
 | 10 => .lst [sV "disk", .int 3]
 | 11 => .tup [sV "raidz", .lst ((disksL a 3).map dskV)]
 | 12 => .tup [sV "raidz", .bool true, .lst ((disksL a 3).map dskV)]
 | _ => .none
noncomputable abbrev dsksV (gs : List Int) : V := .lst (gs.map dskV)
noncomputable def planV : Pl → V
 | .disk g => dskV g
 | .mir gs => .tup [sV "mirror", dsksV gs]
 | .rz p gs => .tup [sV "raidz", .int p, dsksV gs]
 | .odd k a => oddV a k
noncomputable def wfPl : Pl → Prop
 | .disk g => okG g
 | .mir gs => gs.length ≤ 8 ∧ ∀ g ∈ gs, okG g
 | .rz p gs => gs.length ≤ 8 ∧ (0 ≤ p ∧ p ≤ 8) ∧ ∀ g ∈ gs, okG g
 | .odd _ _ => True
noncomputable def okPl : Pl → Bool
 | .disk _ => true
 | .mir gs => Nat.ble 2 gs.length
 | .rz p gs => decide (1 ≤ p) && decide (p ≤ 3) && decide (p < gs.length)
 | .odd _ _ => false
noncomputable def guidsPl : Pl → List Int
 | .disk g => [g]
 | .mir gs => gs
 | .rz _ gs => gs
 | .odd _ _ => []
noncomputable def isOdd : Pl → Bool
 | .odd .. => true
 | _ => false
noncomputable def k331 : Ctr := fun vs m Q X => ∃ p, vs = [planV p] ∧ isOdd p = false ∧ wfPl p ∧ m = none ∧ Q (iV (guidsPl p)) none
theorem k331_mk (p) (e0 : vs = [planV p]) (e1 : isOdd p = false) (e2 : wfPl p) (e3 : m = none) (e4 : Q (iV (guidsPl p)) none) : k331 vs m Q X := ⟨p, e0, e1, e2, e3, e4⟩
theorem b331a {g : Int} (h : Q (iV [g]) none) : bd (stN 35) Γ ["plan"] [dskV g] none Q X := by (exact h)
theorem b331b {gs : List Int} (hl : gs.length ≤ 8) (h : Q (iV gs) none) : bd (stN 35) Γ ["plan"] [.tup [sV "mirror", dsksV gs]] none Q X := by
 show chk _ (compW _ (List.map _ (List.map _ gs)) _ _)
 exact cmL (by unfold lstLine; omega) (compT_map (f := V.int) (fun x _ K hK => by exact hK) (fun _ _ => rfl) h)
theorem b331c {p : Int} {gs : List Int} (hl : gs.length ≤ 8) (h : Q (iV gs) none) : bd (stN 35) Γ ["plan"] [.tup [sV "raidz", .int p, dsksV gs]] none Q X := by
 show chk _ (compW _ (List.map _ (List.map _ gs)) _ _)
 exact cmL (by unfold lstLine; omega) (compT_map (f := V.int) (fun x _ K hK => by exact hK) (fun _ _ => rfl) h)
theorem b331 {p : Pl} (ho : isOdd p = false) (hw : wfPl p) (h : Q (iV (guidsPl p)) none) : bd (stN 35) Γ ["plan"] [planV p] none Q X := by
 cases p with
 | disk g => exact b331a h
 | mir gs => exact b331b hw.1 h
 | rz p gs => exact b331c hw.1 h
 | odd => cases ho
structure Nd where
 s : Nat
 g : Int
 p : Int
 cs : List Int
noncomputable def sortS (s : Nat) : Str := match s with
 | 0 => ofString "disk"
 | 1 => ofString "mirror"
 | _ => ofString "raidz"
noncomputable abbrev sortV (s : Nat) : V := .str (sortS s)
noncomputable abbrev dskN (g : Int) : V := mkNode (sV "disk") (.int g) [] (.int 0)
noncomputable def nodeV (n : Nd) : V := mkNode (sortV n.s) (.int n.g) (n.cs.map dskN) (.int n.p)
noncomputable abbrev dskP (g : Int) : V := .tup [sV "disk", .int g, .int 0, .tup []]
noncomputable def plainV (n : Nd) : V := .tup [sortV n.s, .int n.g, .int n.p, .tup (n.cs.map dskP)]
theorem b198d {g : Int} (h : Q (dskP g) none) : bd (cmN 17 1) Γ ["self"] [dskN g] none Q X := by ((refine compW.mk ?_); exact h)
noncomputable def k198d : Ctr := fun vs m Q X => ∃ g, vs = [dskN g] ∧ m = none ∧ Q (dskP g) none
theorem k198d_mk (g) (e0 : vs = [dskN g]) (e1 : m = none) (e2 : Q (dskP g) none) : k198d vs m Q X := ⟨g, e0, e1, e2⟩
theorem b198 {n : Nd} (hΓ : Γ 198 = k198d) (hl : n.cs.length ≤ 255) (h : Q (plainV n) none) : bd (cmN 17 1) Γ ["self"] [nodeV n] none Q X := by
 refine cmL (by unfold lstLine; omega) (compT_map (f := dskP) (fun x _ K hK => ?_) (fun _ _ => rfl) ?_)
 ·exact ca hΓ (k198d_mk _ rfl rfl hK)
 ·refine chk_le_mk (n := (n.cs.map dskP).length) (by rw [length_map]; unfold lstLine; omega) ?_
  exact h
noncomputable abbrev kfin {A B : Prop} (h : A) (e : A = B) : B := e ▸ h
noncomputable def k198 : Ctr := fun vs m Q X => ∃ n, vs = [nodeV n] ∧ m = none ∧ n.cs.length ≤ 255 ∧ Q (plainV n) none
theorem k198_mk (n) (e0 : vs = [nodeV n]) (e1 : m = none) (e2 : n.cs.length ≤ 255) (e3 : Q (plainV n) none) : k198 vs m Q X := ⟨n, e0, e1, e2, e3⟩
noncomputable def numD (gs : List Int) (p : Int) : Int := gs.foldl nStep (17 + p)
noncomputable def nodeOf : Pl → Nd
 | .disk g => ⟨0, g, 0, []⟩
 | .mir gs => ⟨1, numD gs 0, 0, gs⟩
 | .rz p gs => ⟨2, numD gs p, p, gs⟩
 | .odd _ _ => ⟨0, 0, 0, []⟩
noncomputable def k263d : Ctr := fun vs m Q X => ∃ g, vs = [dskN g] ∧ m = none ∧ Q (dskV g) none
theorem k263d_mk (g) (e0 : vs = [dskN g]) (e1 : m = none) (e2 : Q (dskV g) none) : k263d vs m Q X := ⟨g, e0, e1, e2⟩
theorem b263d {g : Int} (h : Q (dskV g) none) : bd (stN 23) Γ ["node"] [dskN g] none Q X := by (exact h)
theorem b263m {g : Int} {gs : List Int} (hΓ : Γ 263 = k263d) (hl : gs.length ≤ 255) (h : Q (planV (.mir gs)) none) : bd (stN 23) Γ ["node"] [nodeV ⟨1, g, 0, gs⟩] none Q X := by
 refine cmL (Nat.le_trans hl (by decide)) (compT_map (f := dskV) (fun x _ K hK => ?_) (fun _ _ => rfl) ?_)
 ·exact ca hΓ (k263d_mk _ rfl rfl hK)
 ·exact h
theorem b263r {g p : Int} {gs : List Int} (hΓ : Γ 263 = k263d) (hl : gs.length ≤ 255) (h : Q (planV (.rz p gs)) none) : bd (stN 23) Γ ["node"] [nodeV ⟨2, g, p, gs⟩] none Q X := by
 refine cmL (Nat.le_trans hl (by decide)) (compT_map (f := dskV) (fun x _ K hK => ?_) (fun _ _ => rfl) ?_)
 ·exact ca hΓ (k263d_mk _ rfl rfl hK)
 ·exact h
noncomputable def k263 : Ctr := fun vs m Q X => ∃ p, vs = [nodeV (nodeOf p)] ∧ isOdd p = false ∧ wfPl p ∧ m = none ∧ Q (planV p) none
theorem k263_mk (p) (e0 : vs = [nodeV (nodeOf p)]) (e1 : isOdd p = false) (e2 : wfPl p) (e3 : m = none) (e4 : Q (planV p) none) : k263 vs m Q X := ⟨p, e0, e1, e2, e3, e4⟩
theorem b263 {p : Pl} (hΓ : Γ 263 = k263d) (ho : isOdd p = false) (hw : wfPl p) (h : Q (planV p) none) : bd (stN 23) Γ ["node"] [nodeV (nodeOf p)] none Q X := by
 cases p with
 | disk g => exact b263d h
 | mir gs => exact b263m hΓ (by have := hw.1; omega) h
 | rz p gs => exact b263r hΓ (by have := hw.1; omega) h
 | odd => cases ho
noncomputable def k270d : Ctr := fun vs m Q X => ∃ g, vs = [dskN g] ∧ m = none ∧ Q (iV [g]) none
theorem k270d_mk (g) (e0 : vs = [dskN g]) (e1 : m = none) (e2 : Q (iV [g]) none) : k270d vs m Q X := ⟨g, e0, e1, e2⟩
noncomputable def guidsN (n : Nd) : List Int := match n.s with
 | 0 => [n.g]
 | _ => n.cs
theorem b270d {g p : Int} {gs : List Int} (h : Q (iV [g]) none) : bd (stN 24) Γ ["node"] [nodeV ⟨0, g, p, gs⟩] none Q X := by (exact h)
theorem b270e {g : Int} (h : Q (iV [g]) none) : bd (stN 24) Γ ["node"] [dskN g] none Q X := by (exact h)
theorem b270n {k : Nat} {g p : Int} {gs : List Int} (hΓ : Γ 270 = k270d) (hl : gs.length ≤ 255) (h : Q (iV gs) none) (hk : k = 1 ∨ k = 2) : bd (stN 24) Γ ["node"] [nodeV ⟨k, g, p, gs⟩] none Q X := by
 rcases hk with rfl | rfl
 all_goals
  refine lmm ?_
  refine loop_pre (fun pre => ⟨[(ofString "node", nodeV ⟨_, g, p, gs⟩), (ofString "found", .cel 0), (ofString "child", dskN (pre.getLastD 0))], [.lst (pre.map .int)]⟩) (fun pre x post e N hN => ?_) (fun x => rfl) (fun e => ?_) (fun _ => ?_)
  ·refine ⟨⟨.inr rfl, _, rfl⟩, ?_⟩
   refine ca hΓ (k270d_mk _ rfl rfl ?_)
   replace e : pre ++ x :: post = gs := e
   have e' := congrArg List.length e
   rw [length_append, length_cons] at e'
   rw [lastD_app, map_append] at hN
   refine chk_le_mk (by rw [length_map]; simp only [map_cons, map_nil, length_cons, length_nil]; unfold lstLine; omega) hN
  ·simp only at e; subst e
   exact h
  ·exact h
theorem b253 {g : Int} (hΓ : Γ 28 = k28) (hΓ' : Γ 193 = k193) (h : okG g → Q (dskN g) none) (hx : ¬ okG g → X (ofString "Misused")) : bd (stN 21) Γ ["plan"] [dskV g] none Q X := by
 refine br_dec (fun h0 => ?_) (fun h0 => ?_)
 ·refine br_ndec (fun h1 => ?_) (fun h1 => ?_)
  ·refine ca hΓ' (k193_3 ?_)
   exact h ⟨h0, h1⟩
  ·exact ca hΓ (k28_c (.inr rfl) (hx (fun q => h1 q.2)))
 ·exact ca hΓ (k28_c (.inr rfl) (hx (fun q => h0 q.1)))
theorem b253x {v : V} (hΓ : Γ 28 = k28) (hv : v = .tup [sV "disk", .bool true] ∨ v = .tup [sV "disk", sV "a"] ∨ v = .tup [sV "disk"] ∨ ∃ l, v = .tup [sV "mirror", .lst l]) (hx : X (ofString "Misused")) : bd (stN 21) Γ ["plan"] [v] none Q X := by
 rcases hv with rfl | rfl | rfl | ⟨l, rfl⟩
 all_goals
  exact ca hΓ (k28_c (.inr rfl) hx)
noncomputable def k253 : Ctr := fun vs m Q X => m = none ∧ ((∃ g, vs = [dskV g] ∧ (okG g → Q (dskN g) none) ∧ (¬ okG g → X (ofString "Misused"))) ∨ ∃ v, vs = [v] ∧ (v = .tup [sV "disk", .bool true] ∨ v = .tup [sV "disk", sV "a"] ∨ v = .tup [sV "disk"] ∨ ∃ l, v = .tup [sV "mirror", .lst l]) ∧ X (ofString "Misused"))
theorem d258 {g : Int} (hΓ : Γ 253 = k253) (hs : Γ 239 = k239) (h : okG g → Q (dskN g) none) (hx : ¬ okG g → X (ofString "Misused")) : bd (stN 22) Γ ["plan"] [dskV g] none Q X := by
 refine ca hs ?_
 exact ca hΓ ⟨rfl, .inl ⟨g, rfl, h, hx⟩⟩
theorem m258 {gs : List Int} (hΓ : Γ 253 = k253) (hs : Γ 239 = k239) (h28 : Γ 28 = k28) (h193 : Γ 193 = k193) (h246 : Γ 246 = k246) (hl : gs.length ≤ 8) (hg : ∀ g ∈ gs, okG g) (h : okPl (.mir gs) = true → Q (nodeV (nodeOf (.mir gs))) none) (hx : okPl (.mir gs) = false → X (ofString "Misused")) : bd (stN 22) Γ ["plan"] [planV (.mir gs)] none Q X := by
 refine ca hs ?_
 refine cmL (by unfold lstLine; omega) (compT_map (f := dskN) (fun x hx K hK => ?_) (fun _ _ => rfl) ?_)
 ·exact ca hΓ ⟨rfl, .inl ⟨x, rfl, fun _ => hK, fun q => (q (hg x hx)).elim⟩⟩
 ·refine cL ?_
  refine br_dec (fun h0 => ?_) (fun h0 => ?_)
  ·have h0 : (2 : Int) ≤ ((gs.map dskN).length : Int) := h0
   rw [length_map] at h0
   have hk : okPl (.mir gs) = true := Nat.ble_eq_true_of_le (by omega)
   refine br_ndec (fun h1 => ?_) (fun h1 => ?_)
   ·refine cL ?_
    refine cmm ?_
    refine (compT_map (f := V.int) (fun x hx K hK => ?_) (fun _ _ => rfl) ?_)
    ·exact hK
    ·refine ca h246 (k246_mk gs 0 rfl rfl (by omega) ?_)
     refine ca h193 (k193_5 (by rw [length_map]; unfold lstLine; omega) ?_)
     exact h hk
   ·simp only [length_map] at h1
    omega
  ·have h0 : ¬ (2 : Int) ≤ ((gs.map dskN).length : Int) := h0
   rw [length_map] at h0
   have hk : okPl (.mir gs) = false := Bool.eq_false_iff.mpr fun q => h0 (by have := Nat.le_of_ble_eq_true q; omega)
   exact ca h28 (k28_c (.inr rfl) (hx hk))
theorem r258 {p : Int} {gs : List Int} (hΓ : Γ 253 = k253) (hs : Γ 239 = k239) (h28 : Γ 28 = k28) (h193 : Γ 193 = k193) (h246 : Γ 246 = k246) (hl : gs.length ≤ 8) (hp : 0 ≤ p ∧ p ≤ 8) (hg : ∀ g ∈ gs, okG g) (h : okPl (.rz p gs) = true → Q (nodeV (nodeOf (.rz p gs))) none) (hx : okPl (.rz p gs) = false → X (ofString "Misused")) : bd (stN 22) Γ ["plan"] [planV (.rz p gs)] none Q X := by
 refine ca hs ?_
 refine cL ?_
 refine cmm ?_
 refine (compT_map (f := dskN) (fun x hx K hK => ?_) (fun _ _ => rfl) ?_)
 ·exact ca hΓ ⟨rfl, .inl ⟨x, rfl, fun _ => hK, fun q => (q (hg x hx)).elim⟩⟩
 ·refine br_i (fun e => ?_) (fun e => ?_)
  ·have hk : okPl (.rz p gs) = false := by
    simp only [okPl, Bool.not_eq_true', Bool.and_eq_false_iff, decide_eq_false_iff_not] at e ⊢
    omega
   exact ca h28 (k28_c (.inr rfl) (hx hk))
  ·have e' : 1 ≤ p ∧ p ≤ 3 := by
    simp only [Bool.not_eq_false', Bool.and_eq_true, decide_eq_true_eq] at e
    omega
   refine cL ?_
   refine br_dec (fun h0 => ?_) (fun h0 => ?_)
   ·have h0' : p + 1 ≤ (gs.length : Int) := by
     simp only [length_map] at h0
     split at h0 <;> omega
    have hk : okPl (.rz p gs) = true := by
     simp only [okPl, Bool.and_eq_true, decide_eq_true_eq]
     omega
    refine br_ndec (fun h1 => ?_) (fun h1 => ?_)
    ·refine cL ?_
     refine cmm ?_
     refine (compT_map (f := V.int) (fun x hx K hK => ?_) (fun _ _ => rfl) ?_)
     ·exact hK
     ·refine ca h246 (k246_mk gs p rfl rfl (by omega) ?_)
      refine ca h193 (k193_5 (by rw [length_map]; unfold lstLine; omega) ?_)
      exact h hk
    ·simp only [length_map] at h1
     omega
   ·have h0' : ¬ p + 1 ≤ (gs.length : Int) := by
     simp only [length_map] at h0
     split at h0 <;> omega
    have hk : okPl (.rz p gs) = false := by
     simp only [okPl, Bool.and_eq_false_iff, decide_eq_false_iff_not]
     omega
    exact ca h28 (k28_c (.inr rfl) (hx hk))
theorem x258a {k : Nat} {a : Int} (hΓ : Γ 253 = k253) (hs : Γ 239 = k239) (hx : X (ofString "Misused")) (hk : k = 2 ∨ k = 3 ∨ k = 5 ∨ k = 6) : bd (stN 22) Γ ["plan"] [planV (.odd k a)] none Q X := by
 rcases hk with rfl | rfl | rfl | rfl
 all_goals
  refine ca hs ?_
  refine ca hΓ ?_
 ·exact ⟨rfl, .inl ⟨-1, rfl, fun q => absurd q (by decide), fun _ => hx⟩⟩
 ·exact ⟨rfl, .inr ⟨_, rfl, .inl rfl, hx⟩⟩
 ·exact ⟨rfl, .inl ⟨4294967296, rfl, fun q => absurd q (by decide), fun _ => hx⟩⟩
 ·exact ⟨rfl, .inr ⟨_, rfl, .inr (.inl rfl), hx⟩⟩
theorem x258b {k : Nat} {a : Int} (h28 : Γ 28 = k28) (hx : X (ofString "Misused")) (hk : k = 4 ∨ k = 9 ∨ k = 10) : bd (stN 22) Γ ["plan"] [planV (.odd k a)] none Q X := by
 rcases hk with rfl | rfl | rfl
 all_goals
  exact ca h28 (k28_c (.inr rfl) hx)
theorem disksL_ok {a m : Int} {g : Int} (h : g ∈ disksL a m) : okG g := by
 obtain ⟨k, _, rfl⟩ := mem_map.mp h
 unfold diskG
 exact ⟨Int.fmod_nonneg_of_pos _ (by decide), Int.fmod_lt_of_pos _ (by decide)⟩
theorem disksL_len {a m : Int} : (disksL a m).length = m.toNat := by rw [disksL, length_map, length_range]
theorem x258c {k : Nat} {a : Int} (hΓ : Γ 253 = k253) (h28 : Γ 28 = k28) (hs : Γ 239 = k239) (hx : X (ofString "Misused")) (hk : k = 7 ∨ k = 8 ∨ k = 11 ∨ k = 12) : bd (stN 22) Γ ["plan"] [planV (.odd k a)] none Q X := by
 rcases hk with rfl | rfl | rfl | rfl
 all_goals
  refine ca hs ?_
 ·exact ca h28 (k28_c (.inr rfl) (hx))
 ·exact ca h28 (k28_c (.inr rfl) (hx))
 ·exact ca h28 (k28_c (.inr rfl) (hx))
 ·refine cmm ?_
  refine (compT_map (f := dskN) (fun x hx K hK => ?_) (fun _ _ => rfl) ?_)
  ·exact ca hΓ ⟨rfl, .inl ⟨x, rfl, fun _ => hK, fun q => (q (disksL_ok hx)).elim⟩⟩
  ·exact ca h28 (k28_c (.inr rfl) hx)
theorem x258d {a : Int} (hΓ : Γ 253 = k253) (hs : Γ 239 = k239) (hx : X (ofString "Misused")) : bd (stN 22) Γ ["plan"] [planV (.odd 1 a)] none Q X := by
 refine ca hs ?_
 (refine compW.mk ?_)
 exact ca hΓ ⟨rfl, .inr ⟨_, rfl, .inr (.inr (.inr ⟨_, rfl⟩)), hx⟩⟩
noncomputable def k258 : Ctr := fun vs m Q X => ∃ p, vs = [planV p] ∧ wfPl p ∧ m = none ∧ (okPl p = true → Q (nodeV (nodeOf p)) none) ∧ (okPl p = false → X (ofString "Misused"))
theorem k258_mk (p) (e0 : vs = [planV p]) (e1 : wfPl p) (e2 : m = none) (e3 : (okPl p = true → Q (nodeV (nodeOf p)) none)) (e4 : (okPl p = false → X (ofString "Misused"))) : k258 vs m Q X := ⟨p, e0, e1, e2, e3, e4⟩
theorem b258 {p : Pl} (hΓ : Γ 253 = k253) (hs : Γ 239 = k239) (h28 : Γ 28 = k28) (h193 : Γ 193 = k193) (h246 : Γ 246 = k246) (hw : wfPl p) (h : okPl p = true → Q (nodeV (nodeOf p)) none) (hx : okPl p = false → X (ofString "Misused")) : bd (stN 22) Γ ["plan"] [planV p] none Q X := by
 cases p with
 | disk g => exact d258 hΓ hs (fun _ => h rfl) (fun q => (q hw).elim)
 | mir gs => exact m258 hΓ hs h28 h193 h246 hw.1 hw.2 h hx
 | rz p gs => exact r258 hΓ hs h28 h193 h246 hw.1 hw.2.1 hw.2.2 h hx
 | odd k a =>
  have hX := hx rfl
  match k with
  | 0 => exact x258b (k := 4) (a := a) h28 hX (.inl rfl)
  | 1 => exact x258d hΓ hs hX
  | 2 => exact x258a hΓ hs hX (.inl rfl)
  | 3 => exact x258a hΓ hs hX (.inr (.inl rfl))
  | 4 => exact x258b h28 hX (.inl rfl)
  | 5 => exact x258a hΓ hs hX (.inr (.inr (.inl rfl)))
  | 6 => exact x258a hΓ hs hX (.inr (.inr (.inr rfl)))
  | 7 => exact x258c hΓ h28 hs hX (.inl rfl)
  | 8 => exact x258c hΓ h28 hs hX (.inr (.inl rfl))
  | 9 => exact x258b h28 hX (.inr (.inl rfl))
  | 10 => exact x258b h28 hX (.inr (.inr rfl))
  | 11 => exact x258c hΓ h28 hs hX (.inr (.inr (.inl rfl)))
  | 12 => exact x258c hΓ h28 hs hX (.inr (.inr (.inr rfl)))
  | k + 13 => exact x258b (k := 4) (a := a) h28 hX (.inl rfl)
structure Cfg where
 name : Str
 g : Int
 ed : Int
 tops : List Nd
noncomputable def cfgV (c : Cfg) : V := .inst (ofString "Config") [ofString "name", ofString "guid", ofString "tops", ofString "edition"] [.str c.name, .int c.g, .lst (c.tops.map nodeV), .int c.ed]
noncomputable def cfgP (c : Cfg) : V := .tup [.str c.name, .int c.g, .int c.ed, .tup (c.tops.map plainV)]
noncomputable def wfN (n : Nd) : Prop := n.s ≤ 2 ∧ n.cs.length ≤ 255
noncomputable def k270 : Ctr := fun vs m Q X => ∃ n, vs = [nodeV n] ∧ wfN n ∧ m = none ∧ Q (iV (guidsN n)) none
theorem k270_mk (n) (e0 : vs = [nodeV n]) (e1 : wfN n) (e2 : m = none) (e3 : Q (iV (guidsN n)) none) : k270 vs m Q X := ⟨n, e0, e1, e2, e3⟩
theorem b270 {n : Nd} (hΓ : Γ 270 = k270d) (hw : wfN n) (h : Q (iV (guidsN n)) none) : bd (stN 24) Γ ["node"] [nodeV n] none Q X := by
 obtain ⟨s, g, p, cs⟩ := n
 obtain ⟨h1, h2⟩ := hw
 match s, h1 with
 | 0, _ => exact b270d h
 | 1, _ => exact b270n hΓ h2 h (.inl rfl)
 | 2, _ => exact b270n hΓ h2 h (.inr rfl)
 | k + 3, h => exact absurd h (by simp only; omega)
noncomputable def k225 : Ctr := fun vs m Q X => ∃ c, vs = [cfgV c] ∧ m = none ∧ c.tops.length ≤ 255 ∧ (∀ n ∈ c.tops, n.cs.length ≤ 255) ∧ Q (cfgP c) none
theorem k225_mk (c) (e0 : vs = [cfgV c]) (e1 : m = none) (e2 : c.tops.length ≤ 255) (e3 : (∀ n ∈ c.tops, n.cs.length ≤ 255)) (e4 : Q (cfgP c) none) : k225 vs m Q X := ⟨c, e0, e1, e2, e3, e4⟩
theorem b225 {c : Cfg} (hΓ : Γ 198 = k198) (hl : c.tops.length ≤ 255) (hn : ∀ n ∈ c.tops, n.cs.length ≤ 255) (h : Q (cfgP c) none) : bd (cmN 18 1) Γ ["self"] [cfgV c] none Q X := by
 refine cL ?_
 refine cmm ?_
 refine (compT_map (f := plainV) (fun x hx K hK => ?_) (fun _ _ => rfl) ?_)
 ·exact ca hΓ (k198_mk _ rfl rfl (hn _ hx) hK)
 ·refine cL ?_
  exact h
noncomputable def guidsNs (ns : List Nd) : List Int := ns.flatMap guidsN
noncomputable def k283 : Ctr := fun vs m Q X => ∃ c, vs = [cfgV c] ∧ m = none ∧ c.tops.length ≤ 255 ∧ (∀ n ∈ c.tops, wfN n) ∧ Q (iV (guidsNs c.tops)) none
theorem k283_mk (c) (e0 : vs = [cfgV c]) (e1 : m = none) (e2 : c.tops.length ≤ 255) (e3 : (∀ n ∈ c.tops, wfN n)) (e4 : Q (iV (guidsNs c.tops)) none) : k283 vs m Q X := ⟨c, e0, e1, e2, e3, e4⟩
theorem guidsN_len {n : Nd} (h : wfN n) : (guidsN n).length ≤ 255 := by
 unfold guidsN
 split
 ·exact (by decide : (1 : Nat) ≤ 255)
 ·exact h.2
theorem guidsNs_len : ∀ {ns : List Nd}, (∀ n ∈ ns, wfN n) → (guidsNs ns).length ≤ 255 * ns.length
 | [], _ => Nat.le_refl _
 | n :: ns, h => by
  have h1 := guidsN_len (h n (.head _))
  have h2 := guidsNs_len (ns := ns) fun m hm => h m (.tail _ hm)
  rw [guidsNs, flatMap_cons, length_append, length_cons]
  rw [guidsNs] at h2
  omega
theorem guidsNs_app (a : List Nd) (n : Nd) : guidsNs (a ++ [n]) = guidsNs a ++ guidsN n := by simp [guidsNs]
theorem b283 {c : Cfg} (hΓ : Γ 270 = k270) (hl : c.tops.length ≤ 255) (hn : ∀ n ∈ c.tops, wfN n) (h : Q (iV (guidsNs c.tops)) none) : bd (stN 26) Γ ["config"] [cfgV c] none Q X := by
 refine lmm ?_
 refine loop_pre (fun pre => ⟨[(ofString "config", cfgV c), (ofString "found", .cel 0), (ofString "node", nodeV (pre.getLastD ⟨0, 0, 0, []⟩))], [.lst ((guidsNs pre).map .int)]⟩) (fun pre x post e N hN => ?_) (fun x => rfl) (fun e => ?_) (fun _ => ?_)
 ·refine ⟨⟨.inr rfl, _, rfl⟩, ?_⟩
  refine ca hΓ ?_
  have hx := hn x (by rw [← e]; simp)
  refine ⟨_, rfl, hx, rfl, ?_⟩
  have l1 := guidsNs_len (ns := pre ++ [x]) (fun m hm => hn m (by rw [← e]; simp at hm ⊢; rcases hm with q | q <;> simp [q]))
  have e' := congrArg List.length e
  rw [length_append, length_cons] at e'
  rw [guidsNs_app, length_append, length_append] at l1
  simp only [length_cons, length_nil] at l1
  rw [lastD_app, guidsNs_app, map_append] at hN
  refine cL ?_
  exact hN
 ·have e : c.tops = [] := e
  rw [e] at h
  exact h
 ·exact h
noncomputable def okPs (ps : List Pl) : Bool := !ps.isEmpty && ps.all okPl && decide ((guidsNs (ps.map nodeOf)).length = (metOf (guidsNs (ps.map nodeOf))).length)
noncomputable def k276 : Ctr := fun vs m Q X => ∃ name guid ed ps, (vs = [.str name, .int guid, .lst (ps.map planV), .int ed] ∨ vs = [.str name, .int guid, .lst (ps.map planV)] ∧ ed = 1) ∧ m = none ∧ ps.length ≤ 3 ∧ (∀ p ∈ ps, wfPl p) ∧
 (okPs ps = true → Q (cfgV ⟨name, guid, ed, ps.map nodeOf⟩) none) ∧ (okPs ps = false → X (ofString "Misused"))
theorem k276_mk (name) (guid) (ed) (ps) (e0 : (vs = [.str name, .int guid, .lst (ps.map planV), .int ed] ∨ vs = [.str name, .int guid, .lst (ps.map planV)] ∧ ed = 1)) (e1 : m = none) (e2 : ps.length ≤ 3) (e3 : (∀ p ∈ ps, wfPl p)) (e4 : (okPs ps = true → Q (cfgV ⟨name, guid, ed, ps.map nodeOf⟩) none)) (e5 : (okPs ps = false → X (ofString "Misused"))) : k276 vs m Q X := ⟨name, guid, ed, ps, e0, e1, e2, e3, e4, e5⟩
theorem wfN_of {p : Pl} (h : wfPl p) : wfN (nodeOf p) := by
 cases p with
 | disk g => exact ⟨Nat.zero_le _, Nat.zero_le _⟩
 | mir gs => exact ⟨(by decide : 1 ≤ 2), Nat.le_trans h.1 (by decide)⟩
 | rz q gs => exact ⟨Nat.le_refl 2, Nat.le_trans h.1 (by decide)⟩
 | odd => exact ⟨Nat.zero_le _, Nat.zero_le _⟩
theorem celsOf_plan (p : Pl) : celsOf [planV p] = [] := by
 cases p with
 | odd k a =>
  show celsOf [oddV a k] = []
  unfold oddV
  split <;> rfl
 | _ => rfl
theorem eqv_int (a b : Int) : eqF (.int a) (.int b) = decide (a = b) := by kernel_rfl
theorem intsOf_int (l : List Int) : intsOf (l.map V.int) = some l := (optAll_map (f := intW) (g := V.int) (k := fun x => x) (fun _ => rfl) l).trans (by rw [List.map_id'])
theorem b276 {name : Str} {guid ed : Int} {ps : List Pl} (h28 : Γ 28 = k28) (h258 : Γ 258 = k258) (h270 : Γ 270 = k270) (h220 : Γ 220 = k220) (hl : ps.length ≤ 3) (hw : ∀ p ∈ ps, wfPl p)
  (h : okPs ps = true → Q (cfgV ⟨name, guid, ed, ps.map nodeOf⟩) none) (hx : okPs ps = false → X (ofString "Misused")) : bd (stN 25) Γ ["name", "guid", "plans", "edition"] [.str name, .int guid, .lst (ps.map planV), .int ed] none Q X := by
 refine cL ?_
 refine cmm ?_
 refine compT_mapX okPl (f := fun p => nodeV (nodeOf p)) (fun p hp K hK => ?_) (fun _ _ => rfl) (fun ha => ?_)
 ·refine caV h258 (celsOf_plan p) (k258_mk p rfl (hw p hp) rfl hK (fun o => hx ?_))
  have : ps.all okPl = false := by rw [List.all_eq_false]; exact ⟨p, hp, by rw [o]; decide⟩
  rw [okPs, this, Bool.and_false, Bool.false_and]
 ·refine lmm ?_
  have hg : ∀ n ∈ ps.map nodeOf, wfN n := fun n hn => by
   obtain ⟨p, hp, rfl⟩ := mem_map.mp hn
   exact wfN_of (hw p hp)
  have lg := guidsNs_len hg
  rw [length_map] at lg
  refine loop_pre (fun pre => ⟨[(ofString "name", .str name), (ofString "guid", .int guid), (ofString "plans", .lst (ps.map planV)), (ofString "edition", .int ed), (ofString "tops", .lst (ps.map fun p => nodeV (nodeOf p))), (ofString "guids", .cel 0), (ofString "node", nodeV (nodeOf (pre.getLastD (.odd 0 0))))], [.lst ((guidsNs (pre.map nodeOf)).map .int)]⟩) (fun pre x post e N hN => ?_) (fun x => rfl) (fun e => ?_) (fun hne => ?_)
  ·refine ⟨⟨.inr rfl, _, rfl⟩, ?_⟩
   refine ca h270 (k270_mk _ rfl (hg _ (by rw [← e]; simp)) rfl ?_)
   have e' : (pre ++ x :: post).length = ps.length := congrArg List.length e
   rw [← e, map_append, map_cons, guidsNs, flatMap_append, flatMap_cons, length_append, length_append, ← guidsNs] at lg
   rw [lastD_app, map_append, map_cons, map_nil, guidsNs_app, map_append] at hN
   refine cL ?_
   exact hN
  ·subst e
   exact ca h28 (k28_c (.inr rfl) (hx rfl))
  ·cases ps with
   | nil => exact (hne rfl).elim
   | cons p0 ps' =>
   refine ⟨(by intro q; cases q), ?_⟩
   refine cL ?_
   refine oE (intsOf_int _) ?_
   refine chk_le_mk (by omega) ?_
   have hm : (metOf (guidsNs ((p0 :: ps').map nodeOf))).length ≤ (guidsNs ((p0 :: ps').map nodeOf)).length := firstMet_length_le _ _
   refine chk_le_mk (by unfold lstLine; omega) ?_
   refine br_i (fun e => ?_) (fun e => ?_)
   ·have e := congrArg (!·) e
    simp only [Bool.not_not, Bool.not_true] at e
    rw [eqv_int, length_map] at e
    have hk : okPs (p0 :: ps') = false := by
     rw [okPs, Bool.and_eq_false_iff]
     refine .inr (decide_eq_false fun q => ?_)
     rw [q] at e
     simp at e
    exact ca h28 (k28_c (.inr rfl) (hx hk))
   ·have e := congrArg (!·) e
    simp only [Bool.not_not, Bool.not_false] at e
    rw [eqv_int, length_map] at e
    have hk : okPs (p0 :: ps') = true := by
     rw [okPs, ha, Bool.and_true]
     refine Bool.and_eq_true_iff.mpr ⟨rfl, decide_eq_true ?_⟩
     have := of_decide_eq_true e
     omega
    refine ca h220 (k220_c (by rw [length_map]; unfold lstLine; omega) ?_)
    rw [cfgV, map_map] at h
    exact h hk
noncomputable def k336 : Ctr := fun vs m Q X => ∃ p, vs = [planV p] ∧ wfPl p ∧ m = none ∧ Q (.bool (okPl p)) none
theorem k336_mk (p) (e0 : vs = [planV p]) (e1 : wfPl p) (e2 : m = none) (e3 : Q (.bool (okPl p)) none) : k336 vs m Q X := ⟨p, e0, e1, e2, e3⟩
theorem okG_b {g : Int} (h : okG g) : (decide (0 ≤ g) && decide (g < 4294967296)) = true := by
 rw [decide_eq_true h.1, decide_eq_true h.2]; rfl
theorem b336d {g : Int} (h326 : Γ 326 = k326) (hg : okG g) (h : Q (.bool true) none) : bd (stN 36) Γ ["plan"] [dskV g] none Q X := by
 refine ca h326 ⟨rfl, .inl ⟨g, rfl, ?_⟩⟩
 rw [okG_b hg]
 exact h
theorem b336m {gs : List Int} (h326 : Γ 326 = k326) (hl : gs.length ≤ 8) (hg : ∀ g ∈ gs, okG g) (h : Q (.bool (Nat.ble 2 gs.length)) none) : bd (stN 36) Γ ["plan"] [planV (.mir gs)] none Q X := by
 refine cL ?_
 refine cmm ?_
 refine (compT_map (f := fun _ => V.bool true) (fun x hx K hK => ?_) (fun _ _ => rfl) ?_)
 ·refine ca h326 ⟨rfl, .inl ⟨x, rfl, ?_⟩⟩
  rw [okG_b (hg x hx)]
  exact hK
 ·refine oE (boolsOf_map _ _) ?_
  rw [show (gs.map fun _ => true).all id = true by simp]
  refine cL ?_
  have e : decide (((gs.map dskV).length : Int) ≥ 2) = Nat.ble 2 gs.length := by
   rw [length_map, Bool.eq_iff_iff, decide_eq_true_iff, Nat.ble_eq]
   omega
  rw [← e] at h
  exact h
theorem b336r {p : Int} {gs : List Int} (h326 : Γ 326 = k326) (hl : gs.length ≤ 8) (hg : ∀ g ∈ gs, okG g) (h : Q (.bool (okPl (.rz p gs))) none) : bd (stN 36) Γ ["plan"] [planV (.rz p gs)] none Q X := by
 refine cL ?_
 refine cmm ?_
 refine (compT_map (f := fun _ => V.bool true) (fun x hx K hK => ?_) (fun _ _ => rfl) ?_)
 ·refine ca h326 ⟨rfl, .inl ⟨x, rfl, ?_⟩⟩
  rw [okG_b (hg x hx)]
  exact hK
 ·refine oE (boolsOf_map _ _) ?_
  rw [show (gs.map fun _ => true).all id = true by simp]
  refine br_i (fun e => ?_) (fun e => ?_)
  ·have e : ([1, 2, 3].any fun x => x == p) = true := e
   simp only [List.any_cons, List.any_nil, Bool.or_false, Bool.or_eq_true, beq_iff_eq] at e
   refine cL ?_
   have e' : okPl (.rz p gs) = decide (((gs.map dskV).length : Int) > p) := by
    rw [length_map, Bool.eq_iff_iff, decide_eq_true_iff]
    simp only [okPl, Bool.and_eq_true, decide_eq_true_eq]
    omega
   rw [e'] at h
   exact h
  ·have e' : okPl (.rz p gs) = ([1, 2, 3].any fun x => x == p) := by
    have e : ([1, 2, 3].any fun x => x == p) = false := e
    rw [e]
    simp only [List.any_cons, List.any_nil, Bool.or_false, Bool.or_eq_false_iff, beq_eq_false_iff_ne, ne_eq] at e
    simp only [okPl, Bool.and_eq_false_iff, decide_eq_false_iff_not]
    omega
   rw [e'] at h
   exact h
theorem b336x {k : Nat} {a : Int} (h326 : Γ 326 = k326) (h : Q (.bool false) none) (hk : k = 2 ∨ k = 3 ∨ k = 5 ∨ k = 6) : bd (stN 36) Γ ["plan"] [planV (.odd k a)] none Q X := by
 rcases hk with rfl | rfl | rfl | rfl
 all_goals
  refine ca h326 ?_
 ·exact ⟨rfl, .inl ⟨-1, rfl, h⟩⟩
 ·exact ⟨rfl, .inr ⟨.inr (.inl rfl), h⟩⟩
 ·exact ⟨rfl, .inl ⟨4294967296, rfl, h⟩⟩
 ·exact ⟨rfl, .inr ⟨.inr (.inr rfl), h⟩⟩
theorem b336y {k : Nat} {a : Int} (h : Q (.bool false) none) (hk : k = 4 ∨ k = 7 ∨ k = 9 ∨ k = 10) : bd (stN 36) Γ ["plan"] [planV (.odd k a)] none Q X := by
 rcases hk with rfl | rfl | rfl | rfl
 ·(exact h)
 ·(exact h)
 ·(exact h)
 ·(exact h)
theorem b336z {k : Nat} {a : Int} (h326 : Γ 326 = k326) (h : Q (.bool false) none) (hk : k = 11 ∨ k = 12) : bd (stN 36) Γ ["plan"] [planV (.odd k a)] none Q X := by
 rcases hk with rfl | rfl
 all_goals
  refine cmm ?_
  refine (compT_map (f := fun _ => V.bool true) (fun x hx K hK => ?_) (fun _ _ => rfl) ?_)
  ·refine ca h326 ⟨rfl, .inl ⟨x, rfl, ?_⟩⟩
   rw [okG_b (disksL_ok hx)]
   exact hK
  ·exact h
theorem b336w {a : Int} (h326 : Γ 326 = k326) (h : Q (.bool false) none) : bd (stN 36) Γ ["plan"] [planV (.odd 1 a)] none Q X := by
 (refine compW.mk ?_)
 refine ca h326 ⟨rfl, .inr ⟨.inl ⟨_, rfl⟩, ?_⟩⟩
 refine ca h326 ⟨rfl, .inr ⟨.inl ⟨_, rfl⟩, ?_⟩⟩
 (exact h)
theorem b336e {a : Int} (h : Q (.bool false) none) : bd (stN 36) Γ ["plan"] [planV (.odd 8 a)] none Q X := by ((refine compW.mk ?_); exact h)
theorem b336 {p : Pl} (h326 : Γ 326 = k326) (hw : wfPl p) (h : Q (.bool (okPl p)) none) : bd (stN 36) Γ ["plan"] [planV p] none Q X := by
 cases p with
 | disk g => exact b336d h326 hw h
 | mir gs => exact b336m h326 hw.1 hw.2 h
 | rz p gs => exact b336r h326 hw.1 hw.2.2 h
 | odd k a =>
  match k with
  | 0 => exact b336y (k := 4) (a := a) h (.inl rfl)
  | 1 => exact b336w h326 h
  | 2 => exact b336x h326 h (.inl rfl)
  | 3 => exact b336x h326 h (.inr (.inl rfl))
  | 4 => exact b336y h (.inl rfl)
  | 5 => exact b336x h326 h (.inr (.inr (.inl rfl)))
  | 6 => exact b336x h326 h (.inr (.inr (.inr rfl)))
  | 7 => exact b336y h (.inr (.inl rfl))
  | 8 => exact b336e h
  | 9 => exact b336y h (.inr (.inr (.inl rfl)))
  | 10 => exact b336y h (.inr (.inr (.inr rfl)))
  | 11 => exact b336z h326 h (.inl rfl)
  | 12 => exact b336z h326 h (.inr rfl)
  | k + 13 => exact b336y (k := 4) (a := a) h (.inl rfl)
noncomputable def seqP : Pl → Prop
 | .mir gs => ∃ a n, gs = disksL a n
 | .rz _ gs => ∃ a n, gs = disksL a n
 | _ => True
noncomputable def k319 : Ctr := fun vs m Q X => ∃ a, vs = [.int a] ∧ m = none ∧ (0 ≤ a ∧ a < 2 ^ 40) ∧ ∀ p, wfPl p → seqP p → Q (planV p) none
theorem k319_mk (a) (e0 : vs = [.int a]) (e1 : m = none) (e2 : (0 ≤ a ∧ a < 2 ^ 40)) (e3 : ∀ p, wfPl p → seqP p → Q (planV p) none) : k319 vs m Q X := ⟨a, e0, e1, e2, e3⟩
theorem wf_disks {a n : Int} (h : 0 ≤ n ∧ n ≤ 8) : (disksL a n).length ≤ 8 ∧ ∀ g ∈ disksL a n, okG g := ⟨by rw [disksL_len]; omega, fun g hg => disksL_ok hg⟩
theorem b319 {a : Int} (h312 : Γ 312 = k312) (ha : 0 ≤ a ∧ a < 2 ^ 40) (h : ∀ p, wfPl p → seqP p → Q (planV p) none) : bd (stN 33) Γ ["a"] [.int a] none Q X := by
 have m8 : 0 ≤ (a.fdiv 8).fmod 5 ∧ (a.fdiv 8).fmod 5 < 5 := ⟨Int.fmod_nonneg_of_pos _ (by decide), Int.fmod_lt_of_pos _ (by decide)⟩
 have m3 : 0 ≤ ((a.fdiv 8).fmod 5).fmod 3 ∧ ((a.fdiv 8).fmod 5).fmod 3 < 3 := ⟨Int.fmod_nonneg_of_pos _ (by decide), Int.fmod_lt_of_pos _ (by decide)⟩
 have n3 : 0 ≤ (a.fdiv 40).fmod 3 ∧ (a.fdiv 40).fmod 3 < 3 := ⟨Int.fmod_nonneg_of_pos _ (by decide), Int.fmod_lt_of_pos _ (by decide)⟩
 have n5 : 0 ≤ (a.fdiv 40).fmod 5 ∧ (a.fdiv 40).fmod 5 < 5 := ⟨Int.fmod_nonneg_of_pos _ (by decide), Int.fmod_lt_of_pos _ (by decide)⟩
 have n13 : 0 ≤ (a.fdiv 8).fmod 13 ∧ (a.fdiv 8).fmod 13 < 13 := ⟨Int.fmod_nonneg_of_pos _ (by decide), Int.fmod_lt_of_pos _ (by decide)⟩
 refine br_dec (fun c1 => ?_) (fun c1 => ?_)
 ·exact h (.disk ((a.fdiv 8).fmod 4294967296)) ⟨Int.fmod_nonneg_of_pos _ (by decide), Int.fmod_lt_of_pos _ (by decide)⟩ trivial
 ·refine br_dec (fun c2 => ?_) (fun c2 => ?_)
  ·refine ca h312 (k312_mk _ _ rfl rfl (by omega) ?_)
   exact h (.mir _) (wf_disks (by omega)) ⟨_, _, rfl⟩
  ·refine br_dec (fun c3 => ?_) (fun c3 => ?_)
   ·refine ca h312 (k312_mk _ _ rfl rfl (by omega) ?_)
    exact h (.rz _ _) ⟨(wf_disks (by omega)).1, by omega, (wf_disks (by omega)).2⟩ ⟨_, _, rfl⟩
   ·refine br_i (fun _ => ?_) (fun _ => ?_)
    ·refine ca h312 (k312_mk _ _ rfl rfl (by omega) ?_)
     exact h (.rz _ _) ⟨(wf_disks (by omega)).1, by omega, (wf_disks (by omega)).2⟩ ⟨_, _, rfl⟩
    ·refine ca h312 (k312_mk _ _ rfl rfl (by omega) ?_)
     refine ca h312 (k312_mk _ _ rfl rfl (by omega) ?_)
     refine ca h312 (k312_mk _ _ rfl rfl (by omega) ?_)
     refine ⟨⟨.inl rfl, _, rfl⟩, ?_⟩
     refine ca h312 (k312_mk _ _ rfl rfl (by omega) ?_)
     have n63 : natLt ((a.fdiv 8).fmod 13) (2 ^ 63) = true := natLt_iff.mpr ⟨n13.1, by have := n13.2; omega⟩
     refine chk_mk n63 ?_
     obtain ⟨j, ej⟩ := Int.eq_ofNat_of_zero_le n13.1
     change oElim (_[((a.fdiv 8).fmod 13).toNat]?) _
     rw [ej] at n13 ⊢
     rw [Int.toNat_natCast]
     have hj : j < 13 := by omega
     match j, hj with
     | 0, _ => exact h (.mir (disksL a 1)) (wf_disks (by omega)) ⟨a, 1, rfl⟩
     | 1, _ => exact h (.odd 1 a) trivial trivial
     | 2, _ => exact h (.odd 2 a) trivial trivial
     | 3, _ => exact h (.odd 3 a) trivial trivial
     | 4, _ => exact h (.odd 4 a) trivial trivial
     | 5, _ => exact h (.odd 5 a) trivial trivial
     | 6, _ => exact h (.odd 6 a) trivial trivial
     | 7, _ => exact h (.odd 7 a) trivial trivial
     | 8, _ => exact h (.odd 8 a) trivial trivial
     | 9, _ => exact h (.odd 9 a) trivial trivial
     | 10, _ => exact h (.odd 10 a) trivial trivial
     | 11, _ => exact h (.odd 11 a) trivial trivial
     | 12, _ => exact h (.odd 12 a) trivial trivial
     | j + 13, hj => omega
noncomputable def nb (L : List UInt8) (a n : Nat) : Int := numLE ((L.drop a).take n)
noncomputable abbrev corr : Str := ofString "Corrupt"
theorem toList_ext (b : Array UInt8) (a n : Nat) : (b.extract a (a + n)).toList = (b.toList.drop a).take n := by
 rw [Array.toList_extract, List.extract_eq_take_drop]
 congr 1
 omega
noncomputable def k156 : Ctr := fun vs m Q X => ∃ (b : Array UInt8) (a n : Nat), vs = [.cel 0, .int n] ∧ m = some (curM b a) ∧ b.size ≤ 90000 ∧ a ≤ b.size ∧ n ≤ 255 ∧
 (a + n ≤ b.size → Q (.bytes (b.extract a (a + n))) (some (curM b ((a + n : Nat) : Int)))) ∧ (¬ a + n ≤ b.size → X corr)
theorem k156_mk (b : Array UInt8) (a n : Nat) (e0 : vs = [.cel 0, .int n]) (e1 : m = some (curM b a)) (e2 : b.size ≤ 90000) (e3 : a ≤ b.size) (e4 : n ≤ 255) (e5 : (a + n ≤ b.size → Q (.bytes (b.extract a (a + n))) (some (curM b ((a + n : Nat) : Int))))) (e6 : (¬ a + n ≤ b.size → X corr)) : k156 vs m Q X := ⟨b, a, n, e0, e1, e2, e3, e4, e5, e6⟩
theorem b156 {b : Array UInt8} {a n : Nat} (h28 : Γ 28 = k28) (h149 : Γ 149 = k149) (hb : b.size ≤ 90000) (ha : a ≤ b.size) (hn : n ≤ 255)
  (h : a + n ≤ b.size → Q (.bytes (b.extract a (a + n))) (some (curM b ((a + n : Nat) : Int)))) (hx : ¬ a + n ≤ b.size → X corr) : bd (cmN 10 2) Γ ["self", "many"] [.cel 0, .int n] (some (curM b a)) Q X := by
 refine ca h149 (k149_mk b a rfl rfl (by unfold lstLine; omega) ?_)
 refine br_dec (fun h0 => ?_) (fun h0 => ?_)
 ·exact ca h28 (k28_c (.inl rfl) (hx (by omega)))
 ·refine chk_mk (decide_eq_true (by omega)) ?_
  refine chk_mk (decide_eq_true (by omega)) ?_
  refine cL ?_
  have h := h (by omega)
  rw [Int.natCast_add] at h
  exact h
noncomputable def k163 : Ctr := fun vs m Q X => ∃ (b : Array UInt8) (a n : Nat), vs = [.cel 0, .int n] ∧ m = some (curM b a) ∧ b.size ≤ 90000 ∧ a ≤ b.size ∧ n ≤ 255 ∧
 (a + n ≤ b.size → Q (.int (nb b.toList a n)) (some (curM b ((a + n : Nat) : Int)))) ∧ (¬ a + n ≤ b.size → X corr)
theorem k163_mk (b : Array UInt8) (a n : Nat) (e0 : vs = [.cel 0, .int n]) (e1 : m = some (curM b a)) (e2 : b.size ≤ 90000) (e3 : a ≤ b.size) (e4 : n ≤ 255) (e5 : (a + n ≤ b.size → Q (.int (nb b.toList a n)) (some (curM b ((a + n : Nat) : Int))))) (e6 : (¬ a + n ≤ b.size → X corr)) : k163 vs m Q X := ⟨b, a, n, e0, e1, e2, e3, e4, e5, e6⟩
theorem b163 {b : Array UInt8} {a n : Nat} (h63 : Γ 63 = k63) (h156 : Γ 156 = k156) (hb : b.size ≤ 90000) (ha : a ≤ b.size) (hn : n ≤ 255)
  (h : a + n ≤ b.size → Q (.int (nb b.toList a n)) (some (curM b ((a + n : Nat) : Int)))) (hx : ¬ a + n ≤ b.size → X corr) : bd (cmN 10 3) Γ ["self", "size"] [.cel 0, .int n] (some (curM b a)) Q X := by
 refine ca h156 (k156_mk b a n rfl rfl hb ha hn (fun hl => ?_) hx)
 refine ca h63 ?_
 have h := h hl
 rw [nb, ← toList_ext] at h
 exact ⟨_, rfl, rfl, by rw [Array.size_extract]; unfold lstLine; omega, h⟩
noncomputable def prn (L : List UInt8) : Bool := L.all fun c => decide (32 ≤ (c.toNat : Int)) && decide ((c.toNat : Int) < 127)
noncomputable def strL (L : List UInt8) : Str := ⟨(L.map fun c => c.toNat).toArray⟩
theorem join_signs : ∀ L : List UInt8, Str.join "" (L.map fun c => (⟨#[c.toNat]⟩ : Str)) = strL L
 | [] => rfl
 | [c] => rfl
 | c :: d :: L => by
  have ih := join_signs (d :: L)
  rw [map_cons, map_cons] at *
  rw [Str.join, ih]
  ·show Str.mk _ = Str.mk _
   congr 1
   have e : (({ cps := #[c.toNat] } : Str) ++ ofString "").cps.toList = [c.toNat] := by kernel_rfl
   simp [strL]
   rw [e]
   rfl
  ·intro q; cases q
theorem txt_join (L : List UInt8) : Txt.join "" (L.map fun c => (⟨#[c.toNat]⟩ : Str)) = strL L := by
 rw [← join_signs]
 exact eq_of_beq (join_plain_closes _ _)
noncomputable def k78 : Ctr := fun vs m Q X => ∃ (b : Array UInt8), vs = [.bytes b] ∧ m = none ∧ b.size ≤ 255 ∧ (prn b.toList = true → Q (.str (strL b.toList)) none) ∧ (prn b.toList = false → X corr)
theorem k78_mk (b : Array UInt8) (e0 : vs = [.bytes b]) (e1 : m = none) (e2 : b.size ≤ 255) (e3 : (prn b.toList = true → Q (.str (strL b.toList)) none)) (e4 : (prn b.toList = false → X corr)) : k78 vs m Q X := ⟨b, e0, e1, e2, e3, e4⟩
theorem b78 {b : Array UInt8} (h28 : Γ 28 = k28) (hb : b.size ≤ 255) (h : prn b.toList = true → Q (.str (strL b.toList)) none) (hx : prn b.toList = false → X corr) : bd (stN 8) Γ ["octets"] [.bytes b] none Q X := by
 refine cL ?_
 refine cmm ?_
 refine compT_map (f := fun c : UInt8 => .bool (decide (32 ≤ (c.toNat : Int)) && decide ((c.toNat : Int) < 127))) (fun c _ K hK => ?_) (fun _ _ => rfl) ?_
 ·refine br_dec (fun h0 => ?_) (fun h0 => ?_)
  ·rw [decide_eq_true h0, Bool.true_and] at hK
   exact hK
  ·rw [decide_eq_false h0, Bool.false_and] at hK
   exact hK
 ·refine oE (boolsOf_map _ _) ?_
  have e : (b.toList.map fun c : UInt8 => decide (32 ≤ (c.toNat : Int)) && decide ((c.toNat : Int) < 127)).all id = prn b.toList := by rw [List.all_map]; rfl
  rw [e]
  refine br_i (fun hp => ?_) (fun hp => ?_)
  ·have hp : prn b.toList = false := by simpa using hp
   exact ca h28 (k28_c (.inl rfl) (hx hp))
  ·have hp : prn b.toList = true := by simpa using hp
   refine ⟨rfl, ?_⟩
   refine cL ?_
   refine cmm ?_
   refine compT_map (f := fun c : UInt8 => .str ⟨#[c.toNat]⟩) (fun c _ K hK => ?_) (fun _ _ => rfl) ?_
   ·refine chk_mk (natLt_iff.mpr ⟨by omega, by have := c.toNat_lt; omega⟩) ?_
    exact hK
   ·refine oE (strsOf_map _ _) ?_
    refine chk_le_mk ?_ ?_
    ·rw [map_map, length_map]
     have e1 : (b.toList.map ((fun x : Str => x.length) ∘ fun c : UInt8 => (⟨#[c.toNat]⟩ : Str))).sum = b.toList.length := by
      rw [show ((fun x : Str => x.length) ∘ fun c : UInt8 => (⟨#[c.toNat]⟩ : Str)) = fun _ => 1 from rfl]
      induction b.toList with
      | nil => rfl
      | cons x l ih => rw [map_cons, List.sum_cons, ih, length_cons]; omega
     rw [e1, Array.length_toList, show (ofString "").length = 0 from rfl]
     omega
    ·have h := h hp
     rw [← txt_join] at h
     exact h
noncomputable def rdT (L : List UInt8) (a : Nat) : Option (List UInt8 × Nat) :=
 if a + 1 ≤ L.length ∧ a + 1 + (nb L a 1).toNat ≤ L.length ∧ prn ((L.drop (a + 1)).take (nb L a 1).toNat) = true then some ((L.drop (a + 1)).take (nb L a 1).toNat, a + 1 + (nb L a 1).toNat) else none
theorem nb1_lt (L : List UInt8) (a : Nat) : 0 ≤ nb L a 1 ∧ nb L a 1 ≤ 255 := by
 unfold nb
 cases h : L.drop a with
 | nil => exact ⟨Int.le_refl _, by decide⟩
 | cons c l =>
  have := c.toNat_lt
  rw [List.take_succ_cons, List.take_zero]
  show 0 ≤ (c.toNat : Int) + 256 * 0 ∧ (c.toNat : Int) + 256 * 0 ≤ 255
  omega
noncomputable def k170 : Ctr := fun vs m Q X => ∃ (b : Array UInt8) (a : Nat), vs = [.cel 0] ∧ m = some (curM b a) ∧ b.size ≤ 90000 ∧ a ≤ b.size ∧
 (∀ l a', rdT b.toList a = some (l, a') → Q (.str (strL l)) (some (curM b (a' : Int)))) ∧ (rdT b.toList a = none → X corr)
theorem k170_mk (b : Array UInt8) (a : Nat) (e0 : vs = [.cel 0]) (e1 : m = some (curM b a)) (e2 : b.size ≤ 90000) (e3 : a ≤ b.size) (e4 : (∀ l a', rdT b.toList a = some (l, a') → Q (.str (strL l)) (some (curM b (a' : Int))))) (e5 : (rdT b.toList a = none → X corr)) : k170 vs m Q X := ⟨b, a, e0, e1, e2, e3, e4, e5⟩
theorem b170 {b : Array UInt8} {a : Nat} (h78 : Γ 78 = k78) (h156 : Γ 156 = k156) (h163 : Γ 163 = k163) (hb : b.size ≤ 90000) (ha : a ≤ b.size)
  (h : ∀ l a', rdT b.toList a = some (l, a') → Q (.str (strL l)) (some (curM b (a' : Int)))) (hx : rdT b.toList a = none → X corr) : bd (cmN 10 4) Γ ["self"] [.cel 0] (some (curM b a)) Q X := by
 have hn := nb1_lt b.toList a
 obtain ⟨n, en⟩ := Int.eq_ofNat_of_zero_le hn.1
 have ln : n ≤ 255 := by omega
 unfold rdT at h hx
 rw [en, Int.toNat_natCast, Array.length_toList] at h hx
 refine ca h163 (k163_mk b a 1 rfl rfl hb ha (by decide) (fun h1 => ?_) (fun h1 => hx (if_neg fun q => h1 q.1)))
 rw [en]
 refine ca h156 (k156_mk b (a + 1) n rfl rfl hb h1 ln (fun h2 => ?_) (fun h2 => hx (if_neg fun q => h2 q.2.1)))
 refine ca h78 ?_
 rw [← toList_ext] at h hx
 refine ⟨_, rfl, rfl, by rw [Array.size_extract]; omega, fun hp => ?_, fun hp => hx (if_neg fun q => absurd (hp.symm.trans q.2.2) (by decide))⟩
 exact h _ _ (if_pos ⟨h1, h2, hp⟩)
noncomputable def rep {α : Type} (rd : Nat → Option (α × Nat)) : Nat → Nat → Option (List α × Nat)
 | 0, a => some ([], a)
 | k + 1, a => (rd a).bind fun x => (rep rd k x.2).bind fun y => some (x.1 :: y.1, y.2)
theorem compT_rep' {α : Type} {rd : Nat → Option (α × Nat)} {f : α → V} {S : Nat → DS} {FE : List (Str × V) → QV → DS → Prop} {B : Prop} {I : Nat → Prop} (hI : ∀ a x a', I a → rd a = some (x, a') → I a') (hf : ∀ x, (f x).isCel = false) :
  ∀ (bs : List (List (Str × V))) (a : Nat) (Q : List V → DS → Prop), I a → (∀ b ∈ bs, ∀ a K, I a → (∀ x a', rd a = some (x, a') → K (f x) (S a')) → (rd a = none → B) → FE b K (S a)) →
   (∀ xs a', rep rd bs.length a = some (xs, a') → Q (xs.map f) (S a')) → (rep rd bs.length a = none → B) → compT FE bs Q (S a)
 | [], a, Q, _, _, hq, _ => hq [] a rfl
 | b :: bs, a, Q, ha, hb, hq, hn => by
  refine hb b (.head _) a _ ha (fun x a' e => chk_mk (b := !(f x).isCel) (by rw [hf x]; rfl) ?_) (fun e => hn (by rw [length_cons, rep, e]; rfl))
  refine compT_rep' hI hf bs a' _ (hI a x a' ha e) (fun b' hb' => hb b' (.tail _ hb')) (fun xs a'' e' => ?_) (fun e' => hn (by rw [length_cons, rep, e, Option.bind_some, e']; rfl))
  exact hq (x :: xs) a'' (by rw [length_cons, rep, e, Option.bind_some, e']; rfl)
theorem compT_rep {α : Type} {rd : Nat → Option (α × Nat)} {f : α → V} (S : Nat → DS) {FE : List (Str × V) → QV → DS → Prop} {B : Prop} (I : Nat → Prop) (hI : ∀ a x a', I a → rd a = some (x, a') → I a') (hf : ∀ x, (f x).isCel = false)
  {bs : List (List (Str × V))} (a : Nat) {Q : List V → DS → Prop} (n : Nat) (hn : bs.length = n) (ha : I a) (hb : ∀ b ∈ bs, ∀ a K, I a → (∀ x a', rd a = some (x, a') → K (f x) (S a')) → (rd a = none → B) → FE b K (S a))
  (hq : ∀ xs a', rep rd n a = some (xs, a') → Q (xs.map f) (S a')) (hx : rep rd n a = none → B) : compW FE bs Q (S a) := by
 subst hn
 exact ⟨compT_rep' hI hf bs a Q ha hb hq hx⟩
noncomputable def rdIn (L : List UInt8) (a : Nat) : Option (Int × Nat) :=
 if a + 7 ≤ L.length ∧ nb L a 1 = 0 ∧ nb L (a + 5) 1 = 0 ∧ nb L (a + 6) 1 = 0 then some (nb L (a + 1) 4, a + 7) else none
noncomputable def okHead (s p m : Int) : Bool := (s == 0 && p == 0 && m == 0) || (s == 1 && p == 0 && decide (2 ≤ m)) || (s == 2 && decide (1 ≤ p) && decide (p ≤ 3) && decide (p < m))
noncomputable def rdTop (L : List UInt8) (a : Nat) : Option (Nd × Nat) :=
 if a + 7 ≤ L.length ∧ okHead (nb L a 1) (nb L (a + 5) 1) (nb L (a + 6) 1) = true then (rep (rdIn L) (nb L (a + 6) 1).toNat (a + 7)).bind fun x => some (⟨(nb L a 1).toNat, nb L (a + 1) 4, nb L (a + 5) 1, x.1⟩, x.2) else none
theorem eqv_pair (a b c d : Int) : eqF (.tuple [.int a, .int b]) (.tuple [.int c, .int d]) = (decide (a = c) && decide (b = d)) := by
 have : eqF (.tuple [.int a, .int b]) (.tuple [.int c, .int d]) = (decide (a = c) && (decide (b = d) && true)) := by kernel_rfl
 rw [this, Bool.and_true]
noncomputable def k302i : Ctr := fun vs m Q X => ∃ (b : Array UInt8) (a : Nat), vs = [.cel 0, .int 1] ∧ m = some (curM b a) ∧ b.size ≤ 90000 ∧ a ≤ b.size ∧
 (∀ g a', rdIn b.toList a = some (g, a') → Q (dskN g) (some (curM b (a' : Int)))) ∧ (rdIn b.toList a = none → X corr)
theorem k302i_mk (b : Array UInt8) (a : Nat) (e0 : vs = [.cel 0, .int 1]) (e1 : m = some (curM b a)) (e2 : b.size ≤ 90000) (e3 : a ≤ b.size) (e4 : (∀ g a', rdIn b.toList a = some (g, a') → Q (dskN g) (some (curM b (a' : Int))))) (e5 : (rdIn b.toList a = none → X corr)) : k302i vs m Q X := ⟨b, a, e0, e1, e2, e3, e4, e5⟩
theorem b302i {b : Array UInt8} {a : Nat} (h28 : Γ 28 = k28) (h163 : Γ 163 = k163) (h193 : Γ 193 = k193) (h239 : Γ 239 = k239) (hb : b.size ≤ 90000) (ha : a ≤ b.size)
  (h : ∀ g a', rdIn b.toList a = some (g, a') → Q (dskN g) (some (curM b (a' : Int)))) (hx : rdIn b.toList a = none → X corr) : bd (stN 29) Γ ["cursor", "depth"] [.cel 0, .int 1] (some (curM b a)) Q X := by
 unfold rdIn at h hx
 rw [Array.length_toList] at h hx
 refine ca h163 (k163_mk b a 1 rfl rfl hb ha (by decide) (fun h1 => ?_) (fun h1 => hx (if_neg fun q => h1 (by omega))))
 refine ca h163 (k163_mk b (a + 1) 4 rfl rfl hb (by omega) (by decide) (fun h2 => ?_) (fun h1 => hx (if_neg fun q => h1 (by omega))))
 refine ca h163 (k163_mk b (a + 5) 1 rfl rfl hb (by omega) (by decide) (fun h3 => ?_) (fun h1 => hx (if_neg fun q => h1 (by omega))))
 refine ca h163 (k163_mk b (a + 6) 1 rfl rfl hb (by omega) (by decide) (fun h4 => ?_) (fun h1 => hx (if_neg fun q => h1 (by omega))))
 refine ca h239 ?_
 have n0 := nb1_lt b.toList a
 refine br_dec (fun c1 => ?_) (fun c1 => ?_)
 ·have c1 : nb b.toList a 1 ≥ 3 := c1
  exact ca h28 (k28_c (.inl rfl) (hx (if_neg fun q => by have := q.2.1; omega)))
 ·refine br_dec (fun c2 => ?_) (fun c2 => ?_)
  ·exact ca h28 (k28_c (.inl rfl) (hx (if_neg fun q => by have := q.2.1; omega)))
  ·have e0 : nb b.toList a 1 = 0 := by omega
   rw [e0]
   refine ca h239 ?_
   refine br_i (fun e => ?_) (fun e => ?_)
   ·have e := (congrArg (fun z => !z) (eqv_pair _ _ _ _)).symm.trans e
    simp only [Bool.not_eq_true', Bool.and_eq_false_iff, decide_eq_false_iff_not] at e
    exact ca h28 (k28_c (.inl rfl) (hx (if_neg fun q => by have := q.2.2; omega)))
   ·have e := (congrArg (fun z => !z) (eqv_pair _ _ _ _)).symm.trans e
    simp only [Bool.not_eq_false', Bool.and_eq_true, decide_eq_true_eq] at e
    rw [e.1, e.2]
    refine compW.mk (show compT _ [] _ _ from ?_)
    refine ca h193 (k193_5 (by decide) ?_)
    exact h _ _ (if_pos ⟨h4, e0, e.2, e.1⟩)
theorem rdIn_le {L : List UInt8} {a a' : Nat} {g : Int} (h : rdIn L a = some (g, a')) : a' ≤ L.length := by
 unfold rdIn at h
 split at h
 ·rename_i q; cases h; exact q.1
 ·cases h
theorem rep_le {α : Type} {rd : Nat → Option (α × Nat)} {n : Nat} (hr : ∀ a x a', rd a = some (x, a') → a' ≤ n) : ∀ k a xs a', a ≤ n → rep rd k a = some (xs, a') → a' ≤ n
 | 0, a, xs, a', h, e => by cases e; exact h
 | k + 1, a, xs, a', h, e => by
  unfold rep at e
  cases q : rd a with
  | none => rw [q] at e; cases e
  | some x =>
   rw [q, Option.bind_some] at e
   cases q' : rep rd k x.2 with
   | none => rw [q'] at e; cases e
   | some y =>
    rw [q', Option.bind_some] at e
    cases e
    exact rep_le hr k x.2 y.1 y.2 (hr a x.1 x.2 q) q'
theorem rep_len {α : Type} {rd : Nat → Option (α × Nat)} : ∀ {k a xs a'}, rep rd k a = some (xs, a') → xs.length = k
 | 0, a, xs, a', e => by cases e; rfl
 | k + 1, a, xs, a', e => by
  unfold rep at e
  cases q : rd a with
  | none => rw [q] at e; cases e
  | some x =>
   rw [q, Option.bind_some] at e
   cases q' : rep rd k x.2 with
   | none => rw [q'] at e; cases e
   | some y =>
    rw [q', Option.bind_some] at e
    cases e
    rw [length_cons, rep_len q']
theorem rdTop_le {L : List UInt8} {a a' : Nat} {n : Nd} (h : rdTop L a = some (n, a')) : a' ≤ L.length := by
 unfold rdTop at h
 split at h
 ·rename_i q
  cases e : rep (rdIn L) (nb L (a + 6) 1).toNat (a + 7) with
  | none => rw [e] at h; cases h
  | some x => rw [e] at h; cases h; exact rep_le (fun a x a' h => rdIn_le h) _ _ _ _ q.1 e
 ·cases h
noncomputable def k302 : Ctr := fun vs m Q X => ∃ (b : Array UInt8) (a : Nat), vs = [.cel 0, .int 0] ∧ m = some (curM b a) ∧ b.size ≤ 90000 ∧ a ≤ b.size ∧
 (∀ n a', rdTop b.toList a = some (n, a') → Q (nodeV n) (some (curM b (a' : Int)))) ∧ (rdTop b.toList a = none → X corr)
theorem k302_mk (b : Array UInt8) (a : Nat) (e0 : vs = [.cel 0, .int 0]) (e1 : m = some (curM b a)) (e2 : b.size ≤ 90000) (e3 : a ≤ b.size) (e4 : (∀ n a', rdTop b.toList a = some (n, a') → Q (nodeV n) (some (curM b (a' : Int))))) (e5 : (rdTop b.toList a = none → X corr)) : k302 vs m Q X := ⟨b, a, e0, e1, e2, e3, e4, e5⟩
theorem okH {s p m : Int} {b : Bool} (h : okHead s p m = true ↔ b = true) : okHead s p m = b := Bool.eq_iff_iff.mpr h
theorem okH_iff {s p m : Int} : okHead s p m = true ↔ (s = 0 ∧ p = 0 ∧ m = 0) ∨ (s = 1 ∧ p = 0 ∧ 2 ≤ m) ∨ (s = 2 ∧ 1 ≤ p ∧ p ≤ 3 ∧ p < m) := by
 simp only [okHead, Bool.or_eq_true, Bool.and_eq_true, beq_iff_eq, decide_eq_true_eq, or_assoc, and_assoc]
theorem okH_0 {p m : Int} : okHead 0 p m = true ↔ p = 0 ∧ m = 0 := okH_iff.trans ⟨fun h => h.elim And.right fun h => h.elim (fun h => absurd h.1 (by decide)) fun h => absurd h.1 (by decide), fun h => .inl ⟨rfl, h⟩⟩
theorem okH_1 {p m : Int} : okHead 1 p m = true ↔ p = 0 ∧ 2 ≤ m := okH_iff.trans ⟨fun h => h.elim (fun h => absurd h.1 (by decide)) fun h => h.elim And.right fun h => absurd h.1 (by decide), fun h => .inr (.inl ⟨rfl, h⟩)⟩
theorem okH_2 {p m : Int} : okHead 2 p m = true ↔ 1 ≤ p ∧ p ≤ 3 ∧ p < m := okH_iff.trans ⟨fun h => h.elim (fun h => absurd h.1 (by decide)) fun h => h.elim (fun h => absurd h.1 (by decide)) And.right, fun h => .inr (.inr ⟨rfl, h⟩)⟩
theorem okH_s {s p m : Int} (h : okHead s p m = true) : s = 0 ∨ s = 1 ∨ s = 2 := (okH_iff.mp h).elim (fun h => .inl h.1) fun h => h.elim (fun h => .inr (.inl h.1)) fun h => .inr (.inr h.1)
theorem bf_of {a : Bool} (h : ¬ a = true) : a = false := by cases a with | true => exact absurd rfl h | false => rfl
theorem okH0 {s p m : Int} (h : s = 0) : okHead s p m = (decide (p = 0) && (decide (m = 0) && true)) := by
 subst h
 exact okH (okH_0.trans (by rw [Bool.and_true, Bool.and_eq_true, decide_eq_true_eq, decide_eq_true_eq]))
theorem okH0f {s p m : Int} (h : s = 0) (e : (decide (p = 0) && (decide (m = 0) && true)) = false) : okHead s p m = decide (s = 2) := (okH0 h).trans (e.trans (decide_eq_false (by rw [h]; decide)).symm)
theorem okH1 {s p m : Int} (h : s = 1) (hp : p = 0) : okHead s p m = decide (m > 1) := by
 subst h
 exact okH (okH_1.trans (Iff.trans ⟨fun h => h.2, fun h => ⟨hp, h⟩⟩ decide_eq_true_iff.symm))
theorem okH1f {s p m : Int} (h : s = 1) (hp : ¬ (p = 0 ∧ m > 1)) : okHead s p m = decide (s = 2) := by
 subst h
 exact bf_of fun q => hp (okH_1.mp q)
theorem any3 {p : Int} {b : Bool} (e : ([1, 2, 3].any fun x => x == p) = b) : b = true ↔ 1 ≤ p ∧ p ≤ 3 := by
 rw [← e]
 simp only [List.any_cons, List.any_nil, Bool.or_false, Bool.or_eq_true, beq_iff_eq]
 omega
theorem okH2 {s p m : Int} (h : s = 2) (e : ([1, 2, 3].any fun x => x == p) = true) : okHead s p m = decide (m > p) := by
 subst h
 have := (any3 e).mp rfl
 exact okH (okH_2.trans (Iff.trans ⟨fun h => h.2.2, fun h => ⟨this.1, this.2, h⟩⟩ decide_eq_true_iff.symm))
theorem okH2f {s p m : Int} (h : s = 2) (e : ([1, 2, 3].any fun x => x == p) = false) : okHead s p m = ([1, 2, 3].any fun x => x == p) := by
 subst h
 exact (bf_of fun q => Bool.noConfusion ((any3 e).mpr ⟨(okH_2.mp q).1, (okH_2.mp q).2.1⟩)).trans e.symm
theorem okH3 {s p m : Int} (h0 : s ≠ 0) (h1 : s ≠ 1) (h2 : s ≠ 2) : okHead s p m = decide (s = 2) := (bf_of fun q => (okH_s q).elim h0 fun q => q.elim h1 h2).trans (decide_eq_false h2).symm
theorem toNat_line {m : Int} (h : m ≤ 255) : m.toNat ≤ lstLine := by unfold lstLine; omega
theorem rdTop_some {L : List UInt8} {a : Nat} {gs : List Int} {c : Nat} (h : a + 6 + 1 ≤ L.length) (ok : okHead (nb L a 1) (nb L (a + 5) 1) (nb L (a + 6) 1) = true) (e : rep (rdIn L) (nb L (a + 6) 1).toNat (a + 6 + 1) = some (gs, c)) : rdTop L a = some (⟨(nb L a 1).toNat, nb L (a + 1) 4, nb L (a + 5) 1, gs⟩, c) := by
 rw [rdTop, if_pos ⟨h, ok⟩, e]; rfl
theorem rdTop_none {L : List UInt8} {a : Nat} (ok : okHead (nb L a 1) (nb L (a + 5) 1) (nb L (a + 6) 1) = true → rep (rdIn L) (nb L (a + 6) 1).toNat (a + 6 + 1) = none) : rdTop L a = none := by
 unfold rdTop
 split
 ·rename_i q
  rw [ok q.2]; rfl
 ·rfl
theorem rdTop_short {L : List UInt8} {a k : Nat} (j : Nat) (h : ¬ k ≤ L.length) (hk : k + j = a + 7) : rdTop L a = none := if_neg fun q => h (Nat.le_trans (hk ▸ Nat.le_add_right k j) q.1)
theorem min_ok {p m : Int} : 1 ≤ p ∧ p ≤ (if m - 1 < 3 then m - 1 else 3) ↔ 1 ≤ p ∧ p ≤ 3 ∧ p < m := by split <;> omega
noncomputable abbrev nc29 : NC := ⟨fS (stN 29), none⟩
noncomputable abbrev e29 (Γ : Addr → Ctr) : Stmt → (DS → Prop) → QR → (Str → Prop) → DS → Prop := exStep theT Γ 40 true nc29 (exs theT Γ 40 true nc29 19)
theorem tl302 {b : Array UInt8} {c n : Nat} {s g p m : Int} {Rt : QR} (h193 : Γ 193 = k193) (h302 : Γ 302 = k302i) (hb : b.size ≤ 90000) (hc : c ≤ b.size) (hm : 0 ≤ m ∧ m ≤ 255)
  (h : ∀ gs (c' : Nat) ls tl, rep (rdIn b.toList) m.toNat c = some (gs, c') → Rt (nodeV ⟨n, g, p, gs⟩) (some ⟨ls, curM b (c' : Int) :: tl⟩)) (hx : rep (rdIn b.toList) m.toNat c = none → X corr) :
  exl (e29 Γ) ((fB (stN 29)).drop 5) N Rt X ⟨[(ofString "cursor", .cel 0), (ofString "depth", .int 0), (ofString "number", .int s), (ofString "guid", .int g), (ofString "parity", .int p), (ofString "many", .int m), (ofString "sort", sortV n)], [curM b (c : Int)]⟩ := by
 refine chk_mk (rng_mk (by decide) (by decide) (by omega) (by omega)) ?_
 refine chk_le_mk (by rw [length_map, length_map, length_range, Int.sub_zero]; exact toNat_line hm.2) ?_
 refine compT_rep (rd := rdIn b.toList) (f := dskN) (fun c => ⟨[(ofString "cursor", .cel 0), (ofString "depth", .int 0), (ofString "number", .int s), (ofString "guid", .int g), (ofString "parity", .int p), (ofString "many", .int m), (ofString "sort", sortV n)], [curM b (c : Int)]⟩) (B := X corr) (fun c => c ≤ b.size) (fun c x c' _ e => rdIn_le e) (fun _ => rfl) c m.toNat (by rw [length_map, length_map, length_range, Int.sub_zero]) hc (fun bb hbb c K hc hK hX => ?_) (fun gs c' e => ?_) hx
 ·obtain ⟨y, _, rfl⟩ := mem_map.mp hbb
  exact ca h302 (k302i_mk b c rfl rfl hb hc hK hX)
 ·refine ca h193 (k193_5 (by rw [length_map, rep_len e]; exact toNat_line hm.2) ?_)
  exact h gs c' _ _ e
theorem c302 {b : Array UInt8} {c : Nat} {s g p m : Int} {Rt : QR} (h28 : Γ 28 = k28) (h239 : Γ 239 = k239) (h193 : Γ 193 = k193) (h302 : Γ 302 = k302i) (hb : b.size ≤ 90000) (hc : c ≤ b.size) (hs : 0 ≤ s) (hm : 0 ≤ m ∧ m ≤ 255)
  (h : okHead s p m = true → ∀ gs (c' : Nat) ls tl, rep (rdIn b.toList) m.toNat c = some (gs, c') → Rt (nodeV ⟨s.toNat, g, p, gs⟩) (some ⟨ls, curM b (c' : Int) :: tl⟩))
  (hx : okHead s p m = false → X corr) (hx' : okHead s p m = true → rep (rdIn b.toList) m.toNat c = none → X corr) :
  exl (e29 Γ) ((fB (stN 29)).drop 1) N Rt X ⟨[(ofString "cursor", .cel 0), (ofString "depth", .int 0), (ofString "number", .int s), (ofString "guid", .int g), (ofString "parity", .int p), (ofString "many", .int m)], [curM b (c : Int)]⟩ := by
 refine ca h239 ?_
 refine br_dec (fun c1 => ?_) (fun c1 => ?_)
 ·exact ca h28 (k28_c (.inl rfl) (hx (bf_of fun q => by have := okH_s q; have c1 : s ≥ 3 := c1; omega)))
 have c1 : ¬ s ≥ 3 := c1
 have h3 : s = 0 ∨ s = 1 ∨ s = 2 := by omega
 rcases h3 with rfl | rfl | rfl
 ·refine ca h239 ?_
  refine br_i (c := !(decide (m = 0) && (decide (p = 0) && true))) (fun e => ?_) (fun e => ?_)
  ·exact ca h28 (k28_c (.inl rfl) (hx (bf_of fun q => by have q := okH_0.mp q; rw [q.1, q.2] at e; cases e)))
  ·have q : m = 0 ∧ p = 0 := by
    rw [Bool.and_true, Bool.not_eq_false', Bool.and_eq_true, decide_eq_true_eq, decide_eq_true_eq] at e; exact e
   have ok : okHead 0 p m = true := okH_0.mpr ⟨q.2, q.1⟩
   refine kr ?_ (tl302 (N := N) (Rt := Rt) (X := X) (s := 0) (g := g) (p := p) (m := m) (c := c) (n := 0) h193 h302 hb hc hm (h ok) (hx' ok))
   kernel_rfl!
 ·refine ca h239 ?_
  refine br_dec (fun c2 => ?_) (fun c2 => ?_)
  ·exact ca h28 (k28_c (.inl rfl) (hx (bf_of fun q => by have := okH_1.mp q; have c2 : m < 2 := c2; omega)))
  ·have c2 : ¬ m < 2 := c2
   refine br_ndec (fun e => ?_) (fun e => ?_)
   ·have ok : okHead 1 p m = true := okH_1.mpr ⟨e, by omega⟩
    refine kr ?_ (tl302 (N := N) (Rt := Rt) (X := X) (s := 1) (g := g) (p := p) (m := m) (c := c) (n := 1) h193 h302 hb hc hm (h ok) (hx' ok))
    kernel_rfl!
   ·exact ca h28 (k28_c (.inl rfl) (hx (bf_of fun q => e (okH_1.mp q).1)))
 ·refine ca h239 ?_
  refine br_dec (fun c2 => ?_) (fun c2 => ?_)
  ·refine br_ndec (fun c3 => ?_) (fun c3 => ?_)
   ·have ok : okHead 2 p m = true := okH_2.mpr (min_ok.mp ⟨c2, c3⟩)
    refine kr ?_ (tl302 (N := N) (Rt := Rt) (X := X) (s := 2) (g := g) (p := p) (m := m) (c := c) (n := 2) h193 h302 hb hc hm (h ok) (hx' ok))
    kernel_rfl!
   ·exact ca h28 (k28_c (.inl rfl) (hx (bf_of fun q => c3 (min_ok.mpr (okH_2.mp q)).2)))
  ·exact ca h28 (k28_c (.inl rfl) (hx (bf_of fun q => c2 (okH_2.mp q).1)))
theorem b302 {b : Array UInt8} {a : Nat} (h28 : Γ 28 = k28) (h163 : Γ 163 = k163) (h193 : Γ 193 = k193) (h239 : Γ 239 = k239) (h302 : Γ 302 = k302i) (hb : b.size ≤ 90000) (ha : a ≤ b.size)
  (h : ∀ n a', rdTop b.toList a = some (n, a') → Q (nodeV n) (some (curM b (a' : Int)))) (hx : rdTop b.toList a = none → X corr) : bd (stN 29) Γ ["cursor", "depth"] [.cel 0, .int 0] (some (curM b a)) Q X := by
 refine ca h163 (k163_mk b a 1 rfl rfl hb ha (by decide) (fun h1 => ?_) (fun z => hx (rdTop_short 6 z rfl)))
 refine ca h163 (k163_mk b (a + 1) 4 rfl rfl hb h1 (by decide) (fun h2 => ?_) (fun z => hx (rdTop_short 2 z rfl)))
 refine ca h163 (k163_mk b (a + 5) 1 rfl rfl hb h2 (by decide) (fun h3 => ?_) (fun z => hx (rdTop_short 1 z rfl)))
 refine ca h163 (k163_mk b (a + 6) 1 rfl rfl hb h3 (by decide) (fun h4 => ?_) (fun z => hx (rdTop_short 0 z rfl)))
 exact c302 h28 h239 h193 h302 hb h4 (nb1_lt b.toList a).1 (nb1_lt b.toList (a + 6)) (fun ok gs c' _ _ e => h _ _ (rdTop_some h4 ok e)) (fun e => hx (rdTop_none fun q => Bool.noConfusion (e.symm.trans q))) (fun _ e => hx (rdTop_none fun _ => e))
noncomputable def rdCfg (L : List UInt8) : Option Cfg :=
 if 5 ≤ L.length ∧ nb L 0 4 = 1953654117 ∧ nb L 4 1 = 1 then
  (rdT L 5).bind fun t => if t.2 + 13 ≤ L.length ∧ nb L (t.2 + 12) 1 ≠ 0 then
   (rep (rdTop L) (nb L (t.2 + 12) 1).toNat (t.2 + 13)).bind fun x => some ⟨strL t.1, nb L t.2 8, nb L (t.2 + 8) 4, x.1⟩ else none
 else none
theorem rdT_le {L : List UInt8} {a a' : Nat} {l : List UInt8} (h : rdT L a = some (l, a')) : a' ≤ L.length := by
 unfold rdT at h
 split at h
 ·rename_i q; cases h; exact q.2.1
 ·cases h
noncomputable def k307 : Ctr := fun vs m Q X => ∃ b : Array UInt8, vs = [.bytes b] ∧ m = none ∧ b.size ≤ 90000 ∧ (∀ c, rdCfg b.toList = some c → Q (cfgV c) none) ∧ (rdCfg b.toList = none → X corr)
theorem k307_mk (b : Array UInt8) (e0 : vs = [.bytes b]) (e1 : m = none) (e2 : b.size ≤ 90000) (e3 : (∀ c, rdCfg b.toList = some c → Q (cfgV c) none)) (e4 : (rdCfg b.toList = none → X corr)) : k307 vs m Q X := ⟨b, e0, e1, e2, e3, e4⟩
theorem rdCfg_no {L : List UInt8} (h : ¬ (5 ≤ L.length ∧ nb L 0 4 = 1953654117 ∧ nb L 4 1 = 1)) : rdCfg L = none := if_neg h
noncomputable def rdR (L : List UInt8) (t : List UInt8 × Nat) : Option Cfg := if t.2 + 13 ≤ L.length ∧ nb L (t.2 + 12) 1 ≠ 0 then (rep (rdTop L) (nb L (t.2 + 12) 1).toNat (t.2 + 13)).bind fun x => some ⟨strL t.1, nb L t.2 8, nb L (t.2 + 8) 4, x.1⟩ else none
theorem rdCfg_R {L : List UInt8} (h : 5 ≤ L.length ∧ nb L 0 4 = 1953654117 ∧ nb L 4 1 = 1) : rdCfg L = (rdT L 5).bind (rdR L) := if_pos h
theorem rdR_none {L : List UInt8} {t : List UInt8 × Nat} (h : rep (rdTop L) (nb L (t.2 + 12) 1).toNat (t.2 + 13) = none) : rdR L t = none := by
 rw [rdR, h]; exact ite_self _
theorem rdR_some {L : List UInt8} {t : List UInt8 × Nat} {ns : List Nd} {c : Nat} (h : t.2 + 13 ≤ L.length) (m : nb L (t.2 + 12) 1 > 0) (e : rep (rdTop L) (nb L (t.2 + 12) 1).toNat (t.2 + 13) = some (ns, c)) : rdR L t = some ⟨strL t.1, nb L t.2 8, nb L (t.2 + 8) 4, ns⟩ := by
 rw [rdR, if_pos ⟨h, fun q => by rw [q] at m; cases m⟩, e]; rfl
theorem rdR_zero {L : List UInt8} {t : List UInt8 × Nat} (m : ¬ nb L (t.2 + 12) 1 > 0) : rdR L t = none := if_neg fun q => m (by have := (nb1_lt L (t.2 + 12)).1; have := q.2; omega)
noncomputable abbrev e30 (Γ : Addr → Ctr) : Stmt → (DS → Prop) → QR → (Str → Prop) → DS → Prop := exStep theT Γ 40 false ⟨fS (stN 30), none⟩ (exs theT Γ 40 false ⟨fS (stN 30), none⟩ 19)
theorem w307 {b : Array UInt8} {n : Str} {gd ed m : Int} {c : Nat} {Rt : QR} (h28 : Γ 28 = k28) (h220 : Γ 220 = k220) (h302 : Γ 302 = k302) (hb : b.size ≤ 90000) (hc : c ≤ b.size) (hm : 0 ≤ m ∧ m ≤ 255)
  (h : m ≠ 0 → ∀ ns c' st, rep (rdTop b.toList) m.toNat c = some (ns, c') → Rt (cfgV ⟨n, gd, ed, ns⟩) (some st)) (hx : m = 0 → X corr) (hx' : rep (rdTop b.toList) m.toNat c = none → X corr) :
  exl (e30 Γ) ((fB (stN 30)).drop 3) N Rt X ⟨[(ofString "octets", .bytes b), (ofString "cursor", .cel 0), (ofString "name", .str n), (ofString "guid", .int gd), (ofString "edition", .int ed), (ofString "many", .int m)], [curM b (c : Int)]⟩ := by
 refine br_dec (fun e => ca h28 (k28_c (.inl rfl) (hx e))) (fun e => ?_)
 refine chk_mk (rng_mk (by decide) (by decide) (by omega) (by omega)) ?_
 refine chk_le_mk (by rw [length_map, length_map, length_range, Int.sub_zero]; exact toNat_line hm.2) ?_
 refine compT_rep (rd := rdTop b.toList) (f := nodeV) (fun c => ⟨[(ofString "octets", .bytes b), (ofString "cursor", .cel 0), (ofString "name", .str n), (ofString "guid", .int gd), (ofString "edition", .int ed), (ofString "many", .int m)], [curM b (c : Int)]⟩) (B := X corr) (fun c => c ≤ b.size) (fun c x c' _ e => rdTop_le e) (fun _ => rfl) c m.toNat (by rw [length_map, length_map, length_range, Int.sub_zero]) hc (fun bb hbb c K hc hK hX => ?_) (fun ns c' en => ?_) hx'
 ·obtain ⟨y, _, rfl⟩ := mem_map.mp hbb
  exact ca h302 (k302_mk b c rfl rfl hb hc hK hX)
 ·refine ca h220 (k220_c (by rw [length_map, rep_len en]; exact toNat_line hm.2) ?_)
  exact h e ns c' _ en
theorem b307 {b : Array UInt8} (h28 : Γ 28 = k28) (h142 : Γ 142 = k142) (h163 : Γ 163 = k163) (h170 : Γ 170 = k170) (h220 : Γ 220 = k220) (h302 : Γ 302 = k302) (hb : b.size ≤ 90000)
  (h : ∀ c, rdCfg b.toList = some c → Q (cfgV c) none) (hx : rdCfg b.toList = none → X corr) : bd (stN 30) Γ ["octets"] [.bytes b] none Q X := by
 have hN : (¬ (5 ≤ b.toList.length ∧ nb b.toList 0 4 = 1953654117 ∧ nb b.toList 4 1 = 1)) → X corr := fun q => hx (rdCfg_no q)
 refine ca h142 (k142_c ?_)
 refine ca h163 (k163_mk b 0 4 rfl rfl hb (Nat.zero_le _) (by decide) (fun h1 => ?_) (fun z => hN fun q => z (Nat.le_trans (by decide) q.1)))
 refine br_ndec (fun e1 => ?_) (fun e => ca h28 (k28_c (.inl rfl) (hN fun q => e q.2.1)))
 refine ca h163 (k163_mk b 4 1 rfl rfl hb h1 (by decide) (fun h2 => ?_) (fun z => hN fun q => z q.1))
 refine br_ndec (fun e2 => ?_) (fun e => ca h28 (k28_c (.inl rfl) (hN fun q => e q.2.2)))
 have hR := rdCfg_R (L := b.toList) ⟨h2, e1, e2⟩
 refine ca h170 (k170_mk b 5 rfl rfl hb h2 (fun l a et => ?_) (fun et => hx (hR.trans (by rw [et]; rfl))))
 have hR := hR.trans (congrArg (fun z => z.bind (rdR b.toList)) et)
 have hS : ¬ a + 13 ≤ b.toList.length → X corr := fun z => hx (hR.trans (if_neg fun q => z q.1))
 refine ca h163 (k163_mk b a 8 rfl rfl hb (rdT_le et) (by decide) (fun h3 => ?_) (fun z => hS fun q => z (Nat.le_trans (show a + 8 ≤ a + 13 by omega) q)))
 refine ca h163 (k163_mk b (a + 8) 4 rfl rfl hb h3 (by decide) (fun h4 => ?_) (fun z => hS fun q => z (Nat.le_trans (show a + 8 + 4 ≤ a + 13 by omega) q)))
 refine ca h163 (k163_mk b (a + 12) 1 rfl rfl hb h4 (by decide) (fun h5 => ?_) hS)
 have n6 := nb1_lt b.toList (a + 12)
 have pos : nb b.toList (a + 12) 1 ≠ 0 → nb b.toList (a + 12) 1 > 0 := by omega
 exact w307 (N := fun st => Q .none (mOf false st)) h28 h220 h302 hb h5 n6 (fun m0 ns c' _ er => h _ (hR.trans (rdR_some h5 (pos m0) er))) (fun m0 => hx (hR.trans (rdR_zero fun q => by rw [m0] at q; cases q))) (fun er => hx (hR.trans (rdR_none er)))
noncomputable def toI (L : List UInt8) : List Int := L.map fun c => (c.toNat : Int)
theorem toI_len (L : List UInt8) : (toI L).length = L.length := length_map _
theorem pickV_run (l : List V) (lo hi : Option Int) : pickV l lo hi none = (l.drop (kms_lo lo l.length)).take (kms_hi hi l.length - kms_lo lo l.length) := by
 unfold pickV
 rw [kms_bounds]
 simp only [sliceRange_one]
 have := pick_run l.toArray (kms_lo lo l.length) (kms_hi hi l.length - kms_lo lo l.length)
 simpa using this
theorem pickV_rev (l : List V) : pickV l none none (some (-1)) = l.reverse := by
 unfold pickV
 rw [krv_bounds]
 show (sliceRange ((l.length : Int) - 1) (-1) (-1)).filterMap (l[·]?) = _
 rw [krv_sliceRange, krv_range, List.filterMap_reverse]
 have := krv_all l.toArray
 simp at this
 rw [this]
theorem numLE_sum' : ∀ (l : List UInt8) (k : Nat), ((l.zipIdx k).map fun p => (p.1.toNat : Int) * 256 ^ p.2).sum = 256 ^ k * numLE l
 | [], k => by simp [numLE]
 | c :: l, k => by
  rw [List.zipIdx_cons, map_cons, List.sum_cons, numLE_sum' l (k + 1), numLE]
  simp only
  rw [Int.pow_succ, Int.mul_add, Int.mul_assoc, Int.mul_comm (c.toNat : Int)]
noncomputable def k356 : Ctr := fun vs m Q X => ∃ (L : List UInt8) (a n : Nat), vs = [iV (toI L), .cel 0, .int n] ∧ m = some (.lst [.int a]) ∧ L.length ≤ 90000 ∧ a ≤ L.length ∧ n ≤ 255 ∧
 (a + n ≤ L.length → Q (.int (nb L a n)) (some (.lst [.int ((a + n : Nat) : Int)]))) ∧ (¬ a + n ≤ L.length → X corr)
theorem k356_mk (L : List UInt8) (a n : Nat) (e0 : vs = [iV (toI L), .cel 0, .int n]) (e1 : m = some (.lst [.int a])) (e2 : L.length ≤ 90000) (e3 : a ≤ L.length) (e4 : n ≤ 255) (e5 : (a + n ≤ L.length → Q (.int (nb L a n)) (some (.lst [.int ((a + n : Nat) : Int)])))) (e6 : (¬ a + n ≤ L.length → X corr)) : k356 vs m Q X := ⟨L, a, n, e0, e1, e2, e3, e4, e5, e6⟩
theorem full_enum {α : Type} {FE : List (Str × V) → (V → DS → Prop) → DS → Prop} {a b : Str} {l : List V} {k : α → V} {xs : List α} {Q : List V → DS → Prop} {st : DS} (e : l = xs.map k) (hb : xs.length ≤ lstLine) (h : compW FE ((xs.zipIdx 0).map fun p => [(a, .int ((p.2 : Nat) : Int)), (b, k p.1)]) Q st) : chk (Nat.ble (enumF a b 0 l).length lstLine) (compW FE (enumF a b 0 l) Q st) :=
 full_e ((congrArg (fun z => enumF a b 0 z) e).trans (enumF_map a b k xs 0)) (by rw [length_map, List.length_zipIdx]; exact hb) h
theorem b356 {L : List UInt8} {a n : Nat} (h28 : Γ 28 = k28) (hL : L.length ≤ 90000) (ha : a ≤ L.length) (hn : n ≤ 255)
  (h : a + n ≤ L.length → Q (.int (nb L a n)) (some (.lst [.int ((a + n : Nat) : Int)]))) (hx : ¬ a + n ≤ L.length → X corr) : bd (stN 40) Γ ["octets", "at", "size"] [iV (toI L), .cel 0, .int n] (some (.lst [.int a])) Q X := by
 have lL : (toI L).length = L.length := length_map _
 refine chk_le_mk (by simp only [length_map, lL]; unfold lstLine; omega) ?_
 refine br_dec (fun h0 => ?_) (fun h0 => ?_)
 ·have h0 : (a : Int) + n > ((toI L).map V.int).length := h0
  rw [length_map, lL] at h0
  exact ca h28 (k28_c (.inl rfl) (hx (by omega)))
 ·have h0 : ¬ (a : Int) + n > ((toI L).map V.int).length := h0
  rw [length_map, lL] at h0
  have h := h (by omega)
  refine chk_le_mk (by rw [length_map, lL]; unfold lstLine; omega) ?_
  have e : pickV ((toI L).map V.int) (some ((a : Int) + n - n)) (some ((a : Int) + n)) none = ((L.drop a).take n).map fun c => V.int (c.toNat : Int) := by
   rw [pickV_run, length_map, lL]
   have e1 : kms_lo (some ((a : Int) + n - n)) L.length = a := by unfold kms_lo; simp only; rw [if_neg (by omega)]; omega
   have e2 : kms_hi (some ((a : Int) + n)) L.length = a + n := by unfold kms_hi; simp only; rw [if_neg (by omega)]; omega
   rw [e1, e2, toI, map_map, ← List.map_drop, ← List.map_take, Nat.add_sub_cancel_left]
   rfl
  have lt : ((L.drop a).take n).length ≤ 255 := by rw [length_take]; omega
  refine full_enum e (by unfold lstLine; omega) ?_
  refine compT_map (f := fun p => .int ((p.1.toNat : Int) * 256 ^ p.2)) (fun p hp K hK => ?_) (fun _ _ => rfl) ?_
  ·have h1 := (List.mem_zipIdx hp).2.1
   have h2 : p.1.toNat < 256 := p.1.toNat_lt
   refine chk_mk (by rw [show smallN 256 = true from rfl, Bool.and_true]; exact powK_mk (by omega) (by omega)) ?_
   refine chk_mk (or_t (smallI_mk (by omega) (by omega))) ?_
   exact hK
  ·refine oE (intsOf_map _ _) ?_
   rw [numLE_sum' _ 0, Int.pow_zero, Int.one_mul]
   rw [Int.natCast_add] at h
   exact h
noncomputable def k361i : Ctr := fun vs m Q X => ∃ (L : List UInt8) (a : Nat), vs = [iV (toI L), .cel 0, .bool true] ∧ m = some (.lst [.int a]) ∧ L.length ≤ 90000 ∧ a ≤ L.length ∧
 (∀ g a', rdIn L a = some (g, a') → Q (dskP g) (some (.lst [.int (a' : Int)]))) ∧ (rdIn L a = none → X corr)
theorem k361i_mk (L : List UInt8) (a : Nat) (e0 : vs = [iV (toI L), .cel 0, .bool true]) (e1 : m = some (.lst [.int a])) (e2 : L.length ≤ 90000) (e3 : a ≤ L.length) (e4 : (∀ g a', rdIn L a = some (g, a') → Q (dskP g) (some (.lst [.int (a' : Int)])))) (e5 : (rdIn L a = none → X corr)) : k361i vs m Q X := ⟨L, a, e0, e1, e2, e3, e4, e5⟩
theorem b361i {L : List UInt8} {a : Nat} (h28 : Γ 28 = k28) (h356 : Γ 356 = k356) (hL : L.length ≤ 90000) (ha : a ≤ L.length)
  (h : ∀ g a', rdIn L a = some (g, a') → Q (dskP g) (some (.lst [.int (a' : Int)]))) (hx : rdIn L a = none → X corr) : bd (stN 41) Γ ["octets", "at", "is_inner"] [iV (toI L), .cel 0, .bool true] (some (.lst [.int a])) Q X := by
 unfold rdIn at h hx
 (refine compW.mk ?_)
 refine ca h356 (k356_mk L a 1 rfl rfl hL ha (by decide) (fun h1 => ?_) (fun h1 => hx (if_neg fun q => h1 (by omega))))
 refine ca h356 (k356_mk L (a + 1) 4 rfl rfl hL (by omega) (by decide) (fun h2 => ?_) (fun h1 => hx (if_neg fun q => h1 (by omega))))
 refine ca h356 (k356_mk L (a + 5) 1 rfl rfl hL (by omega) (by decide) (fun h3 => ?_) (fun h1 => hx (if_neg fun q => h1 (by omega))))
 refine ca h356 (k356_mk L (a + 6) 1 rfl rfl hL (by omega) (by decide) (fun h4 => ?_) (fun h1 => hx (if_neg fun q => h1 (by omega))))
 refine br_i (fun e => ?_) (fun e => ?_)
 ·have e0 := (eqv_int _ _).symm.trans e
  simp only [decide_eq_true_eq] at e0
  refine br_i (fun e => ?_) (fun e => ?_)
  ·have e := (congrArg (fun z => !z) (eqv_pair _ _ _ _)).symm.trans e
   simp only [Bool.not_eq_true', Bool.and_eq_false_iff, decide_eq_false_iff_not] at e
   exact ca h28 (k28_c (.inl rfl) (hx (if_neg fun q => by have := q.2.2; omega)))
  ·have e := (congrArg (fun z => !z) (eqv_pair _ _ _ _)).symm.trans e
   simp only [Bool.not_eq_false', Bool.and_eq_true, decide_eq_true_eq] at e
   rw [e0, e.1, e.2]
   refine compW.mk (show compT _ [] _ _ from ?_)
   exact h _ _ (if_pos ⟨h4, e0, e.1, e.2⟩)
 ·have e0 := (eqv_int _ _).symm.trans e
  simp only [decide_eq_false_iff_not] at e0
  refine br_t (congrArg (fun z => !z) e) ?_
  exact ca h28 (k28_c (.inl rfl) (hx (if_neg fun q => e0 q.2.1)))
noncomputable def k361 : Ctr := fun vs m Q X => ∃ (L : List UInt8) (a : Nat), vs = [iV (toI L), .cel 0, .bool false] ∧ m = some (.lst [.int a]) ∧ L.length ≤ 90000 ∧ a ≤ L.length ∧
 (∀ n a', rdTop L a = some (n, a') → Q (plainV n) (some (.lst [.int (a' : Int)]))) ∧ (rdTop L a = none → X corr)
theorem k361_mk (L : List UInt8) (a : Nat) (e0 : vs = [iV (toI L), .cel 0, .bool false]) (e1 : m = some (.lst [.int a])) (e2 : L.length ≤ 90000) (e3 : a ≤ L.length) (e4 : (∀ n a', rdTop L a = some (n, a') → Q (plainV n) (some (.lst [.int (a' : Int)])))) (e5 : (rdTop L a = none → X corr)) : k361 vs m Q X := ⟨L, a, e0, e1, e2, e3, e4, e5⟩
noncomputable abbrev nc41 : NC := ⟨fS (stN 41), none⟩
theorem t361 {L : List UInt8} {c : Nat} {s g p m : Int} {b : Bool} {Rt : QR} (h28 : Γ 28 = k28) (h361 : Γ 361 = k361i) (hL : L.length ≤ 90000) (hc : c ≤ L.length) (hm : 0 ≤ m ∧ m ≤ 255) (ok : okHead s p m = b)
  (h : okHead s p m = true → ∀ gs c' ls, rep (rdIn L) m.toNat c = some (gs, c') → Rt (plainV ⟨s.toNat, g, p, gs⟩) (some ⟨ls, [.lst [.int (c' : Int)]]⟩))
  (hx : okHead s p m = false → X corr) (hx' : okHead s p m = true → rep (rdIn L) m.toNat c = none → X corr) :
  exl (exStep theT Γ 40 true nc41 (exs theT Γ 40 true nc41 19)) ((fB (stN 41)).drop 3) N Rt X ⟨[(ofString "octets", iV (toI L)), (ofString "at", .cel 0), (ofString "is_inner", .bool false), (ofString "sort", .int s), (ofString "guid", .int g), (ofString "parity", .int p), (ofString "many", .int m), (ofString "is_right", .bool b)], [.lst [.int (c : Int)]]⟩ := by
 cases b with
 | false => exact ca h28 (k28_c (.inl rfl) (hx ok))
 | true =>
  refine chk_mk (rng_mk (by decide) (by decide) (by have := hm.1; omega) (by have := hm.2; omega)) ?_
  refine chk_le_mk (by rw [length_map, length_map, length_range, Int.sub_zero]; exact toNat_line hm.2) ?_
  refine compT_rep (rd := rdIn L) (f := dskP) (fun c => ⟨[(ofString "octets", iV (toI L)), (ofString "at", .cel 0), (ofString "is_inner", .bool false), (ofString "sort", .int s), (ofString "guid", .int g), (ofString "parity", .int p), (ofString "many", .int m), (ofString "is_right", .bool true)], [.lst [.int (c : Int)]]⟩) (B := X corr) (fun c => c ≤ L.length) (fun c x c' _ e => rdIn_le e) (fun _ => rfl) c m.toNat (by rw [length_map, length_map, length_range, Int.sub_zero]) hc (fun bb hbb c K hc hK hX => ?_) (fun gs c' e => ?_) (hx' ok)
  ·obtain ⟨y, _, rfl⟩ := mem_map.mp hbb
   exact ca h361 (k361i_mk L c rfl rfl hL hc hK hX)
  ·have lg := rep_len e
   refine chk_le_mk (n := (gs.map dskP).length) (by rw [length_map, lg]; exact toNat_line hm.2) ?_
   rcases okH_s ok with rfl | rfl | rfl
   ·exact h ok gs c' _ e
   ·exact h ok gs c' _ e
   ·exact h ok gs c' _ e
set_option maxHeartbeats 1000000 in
theorem m361 {L : List UInt8} {c : Nat} {s g p m : Int} {Rt : QR} (h28 : Γ 28 = k28) (h361 : Γ 361 = k361i) (hL : L.length ≤ 90000) (hc : c ≤ L.length) (hm : 0 ≤ m ∧ m ≤ 255)
  (h : okHead s p m = true → ∀ gs c' ls, rep (rdIn L) m.toNat c = some (gs, c') → Rt (plainV ⟨s.toNat, g, p, gs⟩) (some ⟨ls, [.lst [.int (c' : Int)]]⟩))
  (hx : okHead s p m = false → X corr) (hx' : okHead s p m = true → rep (rdIn L) m.toNat c = none → X corr) :
  exl (exStep theT Γ 40 true nc41 (exs theT Γ 40 true nc41 19)) ((fB (stN 41)).drop 1) N Rt X ⟨[(ofString "octets", iV (toI L)), (ofString "at", .cel 0), (ofString "is_inner", .bool false), (ofString "sort", .int s), (ofString "guid", .int g), (ofString "parity", .int p), (ofString "many", .int m)], [.lst [.int (c : Int)]]⟩ := by
 refine br_dec (fun s0 => ?_) (fun s0 => ?_)
 ·have s1 : decide (s = 1) = false := decide_eq_false (by rw [s0]; decide)
  refine br_i (fun e => ?_) (fun e => ?_)
  ·exact t361 h28 h361 hL hc hm (okH0 s0) h hx hx'
  ·refine br_f s1 (br_f s1 (br_f (decide_eq_false (by rw [s0]; decide)) ?_))
   exact t361 h28 h361 hL hc hm (okH0f s0 e) h hx hx'
 ·refine br_f (decide_eq_false s0) ?_
  refine br_dec (fun s1 => ?_) (fun s1 => ?_)
  ·have s2 : decide (s = 2) = false := decide_eq_false (by rw [s1]; decide)
   refine br_dec (fun p0 => ?_) (fun p0 => ?_)
   ·refine br_dec (fun m1 => ?_) (fun m1 => ?_)
    ·exact t361 h28 h361 hL hc hm (okH1 s1 p0) h hx hx'
    ·refine br_f s2 ?_
     exact t361 h28 h361 hL hc hm (okH1f s1 fun q => m1 q.2) h hx hx'
   ·refine br_f (decide_eq_false p0) (br_f s2 ?_)
    exact t361 h28 h361 hL hc hm (okH1f s1 fun q => p0 q.1) h hx hx'
  ·refine br_f (decide_eq_false s1) ?_
   refine br_dec (fun s2 => ?_) (fun s2 => ?_)
   ·refine br_i (c := [1, 2, 3].any fun x => x == p) (fun e => ?_) (fun e => ?_)
    ·have z := t361 (N := N) (Rt := Rt) (X := X) (s := s) (g := g) (p := p) (m := m) (c := c) (b := decide (m > p)) h28 h361 hL hc hm (okH2 s2 e) h hx hx'
     refine kr ?_ z
     kernel_rfl!
    ·exact t361 h28 h361 hL hc hm (okH2f s2 e) h hx hx'
   ·exact t361 h28 h361 hL hc hm (okH3 s0 s1 s2) h hx hx'
theorem b361 {L : List UInt8} {a : Nat} (h28 : Γ 28 = k28) (h356 : Γ 356 = k356) (h361 : Γ 361 = k361i) (hL : L.length ≤ 90000) (ha : a ≤ L.length)
  (h : ∀ n a', rdTop L a = some (n, a') → Q (plainV n) (some (.lst [.int (a' : Int)]))) (hx : rdTop L a = none → X corr) : bd (stN 41) Γ ["octets", "at", "is_inner"] [iV (toI L), .cel 0, .bool false] (some (.lst [.int a])) Q X := by
 refine compW.mk ?_
 refine ca h356 (k356_mk L a 1 rfl rfl hL ha (by decide) (fun h1 => ?_) (fun z => hx (rdTop_short 6 z rfl)))
 refine ca h356 (k356_mk L (a + 1) 4 rfl rfl hL h1 (by decide) (fun h2 => ?_) (fun z => hx (rdTop_short 2 z rfl)))
 refine ca h356 (k356_mk L (a + 5) 1 rfl rfl hL h2 (by decide) (fun h3 => ?_) (fun z => hx (rdTop_short 1 z rfl)))
 refine ca h356 (k356_mk L (a + 6) 1 rfl rfl hL h3 (by decide) (fun h4 => ?_) (fun z => hx (rdTop_short 0 z rfl)))
 exact m361 h28 h361 hL h4 (nb1_lt L (a + 6)) (fun ok gs c' _ e => h _ _ (rdTop_some h4 ok e)) (fun e => hx (rdTop_none fun q => Bool.noConfusion (e.symm.trans q))) (fun _ e => hx (rdTop_none fun _ => e))
noncomputable def rdB (L : List UInt8) (a : Nat) : Option (Int × Nat) := if a + 1 ≤ L.length then some (nb L a 1, a + 1) else none
theorem nb_cons {L : List UInt8} {a : Nat} (h : a + 1 ≤ L.length) : ∃ c, L.drop a = c :: L.drop (a + 1) ∧ nb L a 1 = (c.toNat : Int) := by
 have e := List.drop_eq_getElem_cons (show a < L.length by omega)
 refine ⟨_, e, ?_⟩
 rw [nb, e, List.take_succ_cons, List.take_zero]
 show (_ : Int) + 256 * 0 = _
 omega
theorem rep_rdB {L : List UInt8} : ∀ (k a : Nat), (a + k ≤ L.length → rep (rdB L) k a = some (((L.drop a).take k).map fun c => (c.toNat : Int), a + k)) ∧ (a ≤ L.length → ¬ a + k ≤ L.length → rep (rdB L) k a = none)
 | 0, a => ⟨fun _ => by rw [List.take_zero]; rfl, fun h h' => (h' (by omega)).elim⟩
 | k + 1, a => by
  have ih := rep_rdB (L := L) k (a + 1)
  refine ⟨fun h => ?_, fun ha h => ?_⟩
  ·obtain ⟨c, e1, e2⟩ := nb_cons (L := L) (a := a) (by omega)
   rw [rep, rdB, if_pos (by omega), Option.bind_some]
   simp only
   rw [ih.1 (by omega), Option.bind_some, e1, List.take_succ_cons, map_cons, e2, show a + 1 + k = a + (k + 1) by omega]
  ·by_cases h1 : a + 1 ≤ L.length
   ·rw [rep, rdB, if_pos h1, Option.bind_some]
    simp only
    rw [ih.2 h1 (by omega)]
    rfl
   ·rw [rep, rdB, if_neg h1]
    rfl
theorem sum_one : ∀ l : List UInt8, (l.map ((fun x : Str => x.length) ∘ fun c : UInt8 => (⟨#[c.toNat]⟩ : Str))).sum = l.length
 | [] => rfl
 | c :: l => by
  rw [map_cons, List.sum_cons, sum_one l, length_cons]
  show 1 + l.length = l.length + 1
  omega
noncomputable def outP (o : Option Cfg) : V := match o with
 | some c => cfgP c
 | none => .none
noncomputable def k366 : Ctr := fun vs m Q X => ∃ L : List UInt8, vs = [iV (toI L)] ∧ m = none ∧ L.length ≤ 90000 ∧ Q (outP (rdCfg L)) none
theorem k366_mk (L : List UInt8) (e0 : vs = [iV (toI L)]) (e1 : m = none) (e2 : L.length ≤ 90000) (e3 : Q (outP (rdCfg L)) none) : k366 vs m Q X := ⟨L, e0, e1, e2, e3⟩
theorem rdB_le {L : List UInt8} {c c' : Nat} {x : Int} (e : rdB L c = some (x, c')) : c' ≤ L.length := by
 unfold rdB at e
 by_cases h : c + 1 ≤ L.length
 ·rw [if_pos h] at e; cases e; exact h
 ·rw [if_neg h] at e; cases e
theorem rdT_len {L : List UInt8} {a a' : Nat} {l : List UInt8} (h : rdT L a = some (l, a')) : l.length ≤ 255 := by
 unfold rdT at h
 by_cases q : a + 1 ≤ L.length ∧ a + 1 + (nb L a 1).toNat ≤ L.length ∧ prn ((L.drop (a + 1)).take (nb L a 1).toNat) = true
 ·rw [if_pos q] at h
  cases h
  have := nb1_lt L a
  rw [length_take]; omega
 ·rw [if_neg q] at h; cases h
noncomputable abbrev nc42 : NC := ⟨fS (stN 42), none⟩
noncomputable def tb42 : List Stmt := match (fB (stN 42))[1]? with
 | some (PySem.Stmt.Try b _ _ _ _) => b
 | _ => []
noncomputable abbrev e42 (Γ : Addr → Ctr) (k : Nat) : Stmt → (DS → Prop) → QR → (Str → Prop) → DS → Prop := exStep theT Γ 40 false nc42 (exs theT Γ 40 false nc42 k)
theorem br_ni {c : Bool} {A B : Prop} (h1 : c = false → A) (h2 : c = true → B) : brT (!c) A B := by cases c with | true => exact h2 rfl | false => exact h1 rfl
theorem lst_le {n : Nat} (h : n ≤ 255) : n ≤ lstLine := Nat.le_trans h (by decide)
theorem rng_len {m : Int} {n : Nat} (h : m = (n : Int)) : (m - 0).toNat = n := by rw [h, Int.sub_zero, Int.toNat_natCast]
theorem z366 {L l : List UInt8} {gd ed m : Int} {ns : List Nd} {mu : List M} {Rt : QR} (hl : l.length ≤ 255) (h1 : m > 0 → ∀ st, Rt (cfgP ⟨strL l, gd, ed, ns⟩) (some st)) (h2 : ¬ m > 0 → ∀ st, Rt .none (some st)) :
  exl (e42 Γ 19) ((fB (stN 42)).drop 2) N Rt X ⟨[(ofString "octets", iV (toI L)), (ofString "at", .cel 0), (ofString "name", .lst ((l.map fun c => (c.toNat : Int)).map V.int)), (ofString "guid", .int gd), (ofString "edition", .int ed), (ofString "many", .int m), (ofString "tops", .tup (ns.map plainV))], mu⟩ := by
 refine br_dec (fun c0 => ?_) (fun c0 => ?_)
 ·refine ⟨rfl, ?_⟩
  refine cL ?_ ?hl
  case hl => rw [length_map, length_map, length_map]; exact lst_le hl
  refine cmm (cmm (compT_map (f := fun c : UInt8 => .str ⟨#[c.toNat]⟩) (fun c _ K hK => ?_) (fun _ _ => rfl) ?_))
  ·exact chk_mk (show natLt (c.toNat : Int) 1114112 = true from natLt_iff.mpr ⟨by omega, by have := c.toNat_lt; omega⟩) hK
  ·refine oE (strsOf_map _ _) ?_
   refine chk_le_mk ?_ ?_
   ·rw [map_map, length_map]
    rw [sum_one, show (ofString "").length = 0 from rfl]
    omega
   ·have h := h1 c0
    rw [cfgP, ← txt_join] at h
    exact h _
 ·exact h2 c0 _
theorem y366 {L l : List UInt8} {gd ed m : Int} {a n : Nat} {Rt : QR} (h361 : Γ 361 = k361) (hL : L.length ≤ 90000) (ha : a ≤ L.length) (hm : m = (n : Int)) (hn : n ≤ 255)
  (h : ∀ ns c, rep (rdTop L) n a = some (ns, c) → N ⟨[(ofString "octets", iV (toI L)), (ofString "at", .cel 0), (ofString "name", .lst ((l.map fun c => (c.toNat : Int)).map V.int)), (ofString "guid", .int gd), (ofString "edition", .int ed), (ofString "many", .int m), (ofString "tops", .tup (ns.map plainV))], [.lst [.int (c : Int)]]⟩) (hx : rep (rdTop L) n a = none → X corr) :
  exl (e42 Γ 18) (tb42.drop 4) N Rt X ⟨[(ofString "octets", iV (toI L)), (ofString "at", .cel 0), (ofString "name", .lst ((l.map fun c => (c.toNat : Int)).map V.int)), (ofString "guid", .int gd), (ofString "edition", .int ed), (ofString "many", .int m)], [.lst [.int (a : Int)]]⟩ := by
 refine chk_mk (rng_mk (by decide) (by decide) (by omega) (by omega)) ?_
 refine chk_le_mk (by rw [length_map, length_map, length_range, rng_len hm]; exact lst_le hn) ?_
 refine compT_rep (rd := rdTop L) (f := plainV) (fun c => ⟨[(ofString "octets", iV (toI L)), (ofString "at", .cel 0), (ofString "name", .lst ((l.map fun c => (c.toNat : Int)).map V.int)), (ofString "guid", .int gd), (ofString "edition", .int ed), (ofString "many", .int m)], [.lst [.int (c : Int)]]⟩) (B := X corr) (fun c => c ≤ L.length) (fun c x c' _ e => rdTop_le e) (fun _ => rfl) a n ?hlen ha (fun bb hbb c K hc hK hX => ?_) (fun ns c e => ?_) hx
 case hlen => rw [length_map, length_map, length_range]; exact rng_len hm
 ·obtain ⟨y, _, rfl⟩ := mem_map.mp hbb
  exact ca h361 (k361_mk L c rfl rfl hL hc hK hX)
 ·refine chk_le_mk (n := (ns.map plainV).length) (by rw [length_map, rep_len e]; exact lst_le hn) ?_
  exact h ns c e
theorem w366 {L l : List UInt8} {a : Nat} {Rt : QR} (h356 : Γ 356 = k356) (h361 : Γ 361 = k361) (hL : L.length ≤ 90000) (ha : a ≤ L.length)
  (h : ∀ gd ed m ns c, a + 13 ≤ L.length → gd = nb L a 8 → ed = nb L (a + 8) 4 → m = nb L (a + 12) 1 → rep (rdTop L) (nb L (a + 12) 1).toNat (a + 13) = some (ns, c) → N ⟨[(ofString "octets", iV (toI L)), (ofString "at", .cel 0), (ofString "name", .lst ((l.map fun c => (c.toNat : Int)).map V.int)), (ofString "guid", .int gd), (ofString "edition", .int ed), (ofString "many", .int m), (ofString "tops", .tup (ns.map plainV))], [.lst [.int (c : Int)]]⟩)
  (hx1 : ¬ a + 13 ≤ L.length → X corr) (hx2 : rep (rdTop L) (nb L (a + 12) 1).toNat (a + 13) = none → X corr) :
  exl (e42 Γ 18) (tb42.drop 3) N Rt X ⟨[(ofString "octets", iV (toI L)), (ofString "at", .cel 0), (ofString "name", .lst ((l.map fun c => (c.toNat : Int)).map V.int))], [.lst [.int (a : Int)]]⟩ := by
 refine ca h356 (k356_mk L a 8 rfl rfl hL ha (by decide) (fun h4 => ?_) (fun h4 => hx1 fun q => h4 (by omega)))
 refine ca h356 (k356_mk L (a + 8) 4 rfl rfl hL h4 (by decide) (fun h5 => ?_) (fun h4 => hx1 fun q => h4 (by omega)))
 refine ca h356 (k356_mk L (a + 12) 1 rfl rfl hL h5 (by decide) (fun h6 => ?_) (fun h4 => hx1 h4))
 have n6 := nb1_lt L (a + 12)
 exact y366 (Rt := Rt) h361 hL h6 (Int.toNat_of_nonneg n6.1).symm (by omega) (fun ns c e => h _ _ _ ns c h6 rfl rfl rfl e) hx2
theorem v366 {L l : List UInt8} {a : Nat} {Rt : QR} (hl : l.length ≤ 255) (hr : prn l = false → ∀ st, Rt .none (some st))
  (h : prn l = true → exl (e42 Γ 18) (tb42.drop 3) N Rt X ⟨[(ofString "octets", iV (toI L)), (ofString "at", .cel 0), (ofString "name", .lst ((l.map fun c => (c.toNat : Int)).map V.int))], [.lst [.int (a : Int)]]⟩) :
  exl (e42 Γ 18) (tb42.drop 2) N Rt X ⟨[(ofString "octets", iV (toI L)), (ofString "at", .cel 0), (ofString "name", .lst ((l.map fun c => (c.toNat : Int)).map V.int))], [.lst [.int (a : Int)]]⟩ := by
 refine cL ?_ ?hl
 case hl => rw [length_map, length_map, length_map]; exact lst_le hl
 refine cmm (cmm (compT_map (f := fun c : UInt8 => .bool (decide (32 ≤ (c.toNat : Int)) && decide ((c.toNat : Int) < 127))) (fun c _ K hK => ?_) (fun _ _ => rfl) ?_))
 ·refine br_dec (fun h0 => ?_) (fun h0 => ?_)
  ·rw [decide_eq_true h0, Bool.true_and] at hK
   exact hK
  ·rw [decide_eq_false h0, Bool.false_and] at hK
   exact hK
 ·refine oE (boolsOf_map _ _) ?_
  have e : (l.map fun c : UInt8 => decide (32 ≤ (c.toNat : Int)) && decide ((c.toNat : Int) < 127)).all id = prn l := by rw [List.all_map]; rfl
  refine br_ni (fun q => ?_) (fun q => ?_)
  ·exact hr (e.symm.trans q) _
  ·refine kr ?_ (h (e.symm.trans q))
   kernel_rfl!
theorem u366 {L : List UInt8} {Rt : QR} (h356 : Γ 356 = k356) (hL : L.length ≤ 90000) (h5 : 5 ≤ L.length) (hr : rdT L 5 = none → ∀ st, Rt .none (some st)) (hx : rdT L 5 = none → X corr)
  (h : ∀ l a, rdT L 5 = some (l, a) → exl (e42 Γ 18) (tb42.drop 3) N Rt X ⟨[(ofString "octets", iV (toI L)), (ofString "at", .cel 0), (ofString "name", .lst ((l.map fun c => (c.toNat : Int)).map V.int))], [.lst [.int (a : Int)]]⟩) :
  exl (e42 Γ 18) (tb42.drop 1) N Rt X ⟨[(ofString "octets", iV (toI L)), (ofString "at", .cel 0)], [.lst [.int ((5 : Nat) : Int)]]⟩ := by
 have n5 := nb1_lt L 5
 have en := Int.toNat_of_nonneg n5.1
 have hT : ¬ (5 + 1 ≤ L.length ∧ 5 + 1 + (nb L 5 1).toNat ≤ L.length ∧ prn ((L.drop (5 + 1)).take (nb L 5 1).toNat) = true) → rdT L 5 = none := fun q => if_neg q
 have hS : 5 + 1 ≤ L.length ∧ 5 + 1 + (nb L 5 1).toNat ≤ L.length ∧ prn ((L.drop (5 + 1)).take (nb L 5 1).toNat) = true → rdT L 5 = some ((L.drop (5 + 1)).take (nb L 5 1).toNat, 5 + 1 + (nb L 5 1).toNat) := fun q => if_pos q
 refine ca h356 (k356_mk L 5 1 rfl rfl hL h5 (by decide) (fun h3 => ?_) (fun h3 => hx (hT fun q => h3 q.1)))
 refine chk_mk (rng_mk (by decide) (by decide) (by omega) (by omega)) ?_
 refine chk_le_mk (by rw [length_map, length_map, length_range, rng_len en.symm]; exact lst_le (by omega)) ?_
 refine compT_rep (rd := rdB L) (f := V.int) (fun c => ⟨[(ofString "octets", iV (toI L)), (ofString "at", .cel 0)], [.lst [.int (c : Int)]]⟩) (B := X corr) (fun c => c ≤ L.length) (fun c x c' _ e => rdB_le e) (fun _ => rfl) (5 + 1) (nb L 5 1).toNat
  ?hlen h3 (fun bb hbb c K hc hK hX => ?_) (fun ns c' en' => ?_) (fun en' => hx (hT fun q => by rw [(rep_rdB (L := L) _ (5 + 1)).1 q.2.1] at en'; cases en'))
 case hlen => rw [length_map, length_map, length_range]; exact rng_len en.symm
 ·obtain ⟨y, _, rfl⟩ := mem_map.mp hbb
  exact ca h356 (k356_mk L c 1 rfl rfl hL hc (by decide) (fun h4 => hK _ _ (if_pos h4)) (fun h4 => hX (if_neg h4)))
 ·by_cases hl6 : 5 + 1 + (nb L 5 1).toNat ≤ L.length
  ·have e6 := en'.symm.trans ((rep_rdB (L := L) _ (5 + 1)).1 hl6)
   cases e6
   refine v366 (l := (L.drop (5 + 1)).take (nb L 5 1).toNat) (by rw [length_take]; omega) (fun q => hr (hT fun z => by rw [q] at z; cases z.2.2)) (fun q => h _ _ (hS ⟨h3, hl6, q⟩))
  ·rw [(rep_rdB (L := L) _ (5 + 1)).2 h3 hl6] at en'; cases en'
theorem b366 {L : List UInt8} (h356 : Γ 356 = k356) (h361 : Γ 361 = k361) (hL : L.length ≤ 90000) (h : Q (outP (rdCfg L)) none) : bd (stN 42) Γ ["octets"] [iV (toI L)] none Q X := by
 have hn : rdCfg L = none → Q .none none := fun e => by rw [e] at h; exact h
 have hs : ∀ c, rdCfg L = some c → Q (cfgP c) none := fun c e => by rw [e] at h; exact h
 refine ca h356 (k356_mk L 0 4 rfl rfl hL (Nat.zero_le _) (by decide) (fun h1 => ?_) (fun h1 => ⟨rfl, rfl, hn (rdCfg_no fun q => h1 (by omega))⟩))
 refine br_ndec (fun e1 => ?_) (fun e => hn (rdCfg_no fun q => e q.2.1))
 refine ca h356 (k356_mk L 4 1 rfl rfl hL h1 (by decide) (fun h2 => ?_) (fun h2 => ⟨rfl, rfl, hn (rdCfg_no fun q => h2 q.1)⟩))
 refine br_ndec (fun e2 => ?_) (fun e => hn (rdCfg_no fun q => e q.2.2))
 have hR := rdCfg_R ⟨h2, e1, e2⟩
 refine u366 h356 hL h2 (fun e _ => hn (hR.trans (by rw [e]; rfl))) (fun e => ⟨rfl, rfl, hn (hR.trans (by rw [e]; rfl))⟩) (fun l a e => ?_)
 have hR := hR.trans (congrArg (fun z => z.bind (rdR L)) e)
 refine w366 h356 h361 hL (rdT_le e) (fun gd ed m ns c hl e1 e2 e3 er => ?_) (fun q => ⟨rfl, rfl, hn (hR.trans (if_neg fun z => q z.1))⟩) (fun q => ⟨rfl, rfl, hn (hR.trans (rdR_none q))⟩)
 subst e1 e2 e3
 exact z366 (N := fun st => Q .none (mOf false st)) (rdT_len e) (fun m0 _ => hs _ (hR.trans (rdR_some hl m0 er))) (fun m0 _ => hn (hR.trans (rdR_zero m0)))
theorem byteArr_toI (L : List UInt8) : (byteArr (toI L)).toList = L := by
 show (toI L).map (fun n => n.toNat.toUInt8) = L
 rw [toI, map_map]
 have : ((fun n : Int => n.toNat.toUInt8) ∘ fun c : UInt8 => (c.toNat : Int)) = id := by
  funext c
  show ((c.toNat : Int)).toNat.toUInt8 = c
  rw [Int.toNat_natCast]
  exact UInt8.ofNat_toNat
 rw [this, List.map_id]
theorem toI_ok (L : List UInt8) : ∀ n ∈ toI L, 0 ≤ n ∧ n < 256 := fun n hn => by
 obtain ⟨c, _, rfl⟩ := mem_map.mp hn
 have := c.toNat_lt
 omega
theorem rep_mem {α : Type} {rd : Nat → Option (α × Nat)} : ∀ {k a xs a'}, rep rd k a = some (xs, a') → ∀ x ∈ xs, ∃ b b', rd b = some (x, b')
 | 0, a, xs, a', e => by cases e; intro x hx; cases hx
 | k + 1, a, xs, a', e => by
  unfold rep at e
  cases q : rd a with
  | none => rw [q] at e; cases e
  | some x =>
   rw [q, Option.bind_some] at e
   cases q' : rep rd k x.2 with
   | none => rw [q'] at e; cases e
   | some y =>
    rw [q', Option.bind_some] at e
    cases e
    intro z hz
    rcases mem_cons.mp hz with rfl | hz
    ·exact ⟨a, x.2, q⟩
    ·exact rep_mem q' z hz
theorem rdTop_wf {L : List UInt8} {a a' : Nat} {n : Nd} (h : rdTop L a = some (n, a')) : n.cs.length ≤ 255 := by
 unfold rdTop at h
 split at h
 ·have n6 := nb1_lt L (a + 6)
  cases e : rep (rdIn L) (nb L (a + 6) 1).toNat (a + 7) with
  | none => rw [e] at h; cases h
  | some x => rw [e] at h; cases h; have := rep_len e; simp only; omega
 ·cases h
theorem rdCfg_wf {L : List UInt8} {c : Cfg} (h : rdCfg L = some c) : c.tops.length ≤ 255 ∧ ∀ n ∈ c.tops, n.cs.length ≤ 255 := by
 unfold rdCfg at h
 split at h
 ·cases e : rdT L 5 with
  | none => rw [e] at h; cases h
  | some t =>
   rw [e, Option.bind_some] at h
   split at h
   ·cases e' : rep (rdTop L) (nb L (t.2 + 12) 1).toNat (t.2 + 13) with
    | none => rw [e'] at h; cases h
    | some x =>
     rw [e'] at h
     cases h
     have := rep_len e'
     have n6 := nb1_lt L (t.2 + 12)
     refine ⟨by simp only; omega, fun n hn => ?_⟩
     obtain ⟨b, b', q⟩ := rep_mem e' n hn
     exact rdTop_wf q
   ·cases h
 ·cases h
theorem b373 {L : List UInt8} (h307 : Γ 307 = k307) (h225 : Γ 225 = k225) (hL : L.length ≤ 90000) (h : Q (outP (rdCfg L)) none) : bd (stN 43) Γ ["octets"] [iV (toI L)] none Q X := by
 refine oE (intsOf_int _) ?_
 refine ⟨toI_ok L, ?_⟩
 refine chk_le_mk (by rw [length_map, toI_len]; unfold lstLine; omega) ?_
 refine ca h307 ?_
 have e := byteArr_toI L
 refine ⟨_, rfl, rfl, by rw [← Array.length_toList, e]; exact hL, fun c hc => ?_, fun hc => ⟨rfl, rfl, ?_⟩⟩
 ·rw [e] at hc
  rw [hc] at h
  exact ca h225 (k225_mk c rfl rfl ((rdCfg_wf hc).1) ((rdCfg_wf hc).2) h)
 ·rw [e] at hc
  rw [hc] at h
  exact h
noncomputable def k380 : Ctr := fun vs m Q X => ∃ name guid ed ps, vs = [.str name, .int guid, .int ed, .lst (ps.map planV)] ∧ m = none ∧ ps.length ≤ 3 ∧ (∀ p ∈ ps, wfPl p) ∧
 (okPs ps = true → Q (cfgV ⟨name, guid, ed, ps.map nodeOf⟩) none) ∧ (okPs ps = false → Q .none none)
theorem k380_mk (name) (guid) (ed) (ps) (e0 : vs = [.str name, .int guid, .int ed, .lst (ps.map planV)]) (e1 : m = none) (e2 : ps.length ≤ 3) (e3 : (∀ p ∈ ps, wfPl p)) (e4 : (okPs ps = true → Q (cfgV ⟨name, guid, ed, ps.map nodeOf⟩) none)) (e5 : (okPs ps = false → Q .none none)) : k380 vs m Q X := ⟨name, guid, ed, ps, e0, e1, e2, e3, e4, e5⟩
theorem b380 {name : Str} {guid ed : Int} {ps : List Pl} (h276 : Γ 276 = k276) (hl : ps.length ≤ 3) (hw : ∀ p ∈ ps, wfPl p)
  (h : okPs ps = true → Q (cfgV ⟨name, guid, ed, ps.map nodeOf⟩) none) (hx : okPs ps = false → Q .none none) : bd (stN 44) Γ ["name", "guid", "edition", "plans"] [.str name, .int guid, .int ed, .lst (ps.map planV)] none Q X := by
 refine br_i (fun e => ?_) (fun e => ?_)
 ·exact ca h276 (k276_mk name guid ed ps (.inl rfl) rfl hl hw h (fun e => ⟨rfl, rfl, hx e⟩))
 ·have e := (congrArg (fun z => !z) (eqv_int _ _)).symm.trans e
  simp only [Bool.not_eq_false', decide_eq_true_eq] at e
  exact ca h276 (k276_mk name guid ed ps (.inr ⟨rfl, e⟩) rfl hl hw h (fun e => ⟨rfl, rfl, hx e⟩))
noncomputable def dskD (g : Int) : PyData := .tuple [.str (ofString "disk"), .int g, .int 0, .tuple []]
noncomputable def ndD (n : Nd) : PyData := .tuple [.str (sortS n.s), .int n.g, .int n.p, .tuple (n.cs.map dskD)]
noncomputable def cfgD (c : Cfg) : PyData := .tuple [.str c.name, .int c.g, .int c.ed, .tuple (c.tops.map ndD)]
noncomputable def outD (o : Option Cfg) : PyData := match o with
 | some c => cfgD c
 | none => .none
theorem toPys_cons {v : V} {l : List V} {d : PyData} {ds : List PyData} (h1 : toPy v = some d) (h2 : toPys l = some ds) : toPys (v :: l) = some (d :: ds) := by
 show (match toPy v, toPys l with | some d, some ds => some (d :: ds) | _, _ => none) = _
 rw [h1, h2]
theorem toPy_tup {l : List V} {ds : List PyData} (h : toPys l = some ds) : toPy (.tup l) = some (.tuple ds) := congrArg (Option.map PyData.tuple) h
theorem toPy_lst {l : List V} {ds : List PyData} (h : toPys l = some ds) : toPy (.lst l) = some (.list ds) := congrArg (Option.map PyData.list) h
theorem toPys_map {α : Type} {f : α → V} {d : α → PyData} (h : ∀ x, toPy (f x) = some (d x)) (l : List α) : toPys (l.map f) = some (l.map d) := by
 induction l with
 | nil => rfl
 | cons x l ih => exact toPys_cons (h x) ih
theorem toPy_dsk (g : Int) : toPy (dskP g) = some (dskD g) := by kernel_rfl
theorem toPy_4 {a b c : V} {l : List V} {x y z : PyData} {ds : List PyData} (e1 : toPy a = some x) (e2 : toPy b = some y) (e3 : toPy c = some z) (h : toPys l = some ds) : toPy (.tup [a, b, c, .tup l]) = some (.tuple [x, y, z, .tuple ds]) :=
 toPy_tup (toPys_cons e1 (toPys_cons e2 (toPys_cons e3 (toPys_cons (toPy_tup h) rfl))))
theorem toPy_nd (n : Nd) : toPy (plainV n) = some (ndD n) := toPy_4 rfl rfl rfl (toPys_map toPy_dsk n.cs)
theorem toPy_cfg (c : Cfg) : toPy (cfgP c) = some (cfgD c) := toPy_4 rfl rfl rfl (toPys_map toPy_nd c.tops)
theorem toPy_out (o : Option Cfg) : toPy (outP o) = some (outD o) := by
 cases o with
 | none => rfl
 | some c => exact toPy_cfg c
theorem toPyM_out (mu : List M) (o : Option Cfg) : toPyM mu (outP o) = some (outD o) := by
 cases o with
 | none => rfl
 | some c => exact toPy_cfg c
theorem eqvAll_map {α : Type} {d : α → PyData} (h : ∀ x, PyData.eqv (d x) (d x) = true) : ∀ l : List α, PyData.eqvAll (l.map d) (l.map d) = true
 | [] => by rw [map_nil]; simp only [PyData.eqvAll]
 | x :: l => by rw [map_cons]; simp only [PyData.eqvAll, h x, eqvAll_map h l, Bool.and_self]
theorem eqv_dsk (g : Int) : PyData.eqv (dskD g) (dskD g) = true := by simp [dskD, PyData.eqv, PyData.eqvAll]
theorem eqv_nd (n : Nd) : PyData.eqv (ndD n) (ndD n) = true := by simp [ndD, PyData.eqv, PyData.eqvAll, eqvAll_map eqv_dsk]
theorem eqv_cfg (c : Cfg) : PyData.eqv (cfgD c) (cfgD c) = true := by simp [cfgD, PyData.eqv, PyData.eqvAll, eqvAll_map eqv_nd]
theorem eqv_out (o : Option Cfg) : PyData.eqv (outD o) (outD o) = true := by
 cases o with
 | none => simp [outD, PyData.eqv]
 | some c => exact eqv_cfg c
theorem lay_map {α : Type} {d : α → PyData} (h : ∀ x, PyData.canLay0 (d x) = true) : ∀ l : List α, PyData.canLayAll0 (l.map d) = true
 | [] => by rw [map_nil]; simp only [PyData.canLayAll0]
 | x :: l => by rw [map_cons]; simp only [PyData.canLayAll0, h x, lay_map h l, Bool.and_self]
theorem dep_map {α : Type} {d : α → PyData} {n : Nat} (h : ∀ x, PyData.depth (d x) ≤ n) : ∀ l : List α, PyData.depthAll (l.map d) ≤ n
 | [] => by rw [map_nil]; simp only [PyData.depthAll]; exact Nat.zero_le _
 | x :: l => by rw [map_cons]; simp only [PyData.depthAll]; exact Nat.max_le.mpr ⟨h x, dep_map h l⟩
theorem ok_disk : PyData.strOk (ofString "disk") = true := by decide +kernel
theorem ok_sort (s : Nat) : PyData.strOk (sortS s) = true := by
 unfold sortS
 split
 ·decide +kernel
 ·decide +kernel
 ·decide +kernel
theorem lay_dsk (g : Int) : PyData.canLay0 (dskD g) = true := by simp [dskD, PyData.canLay0, PyData.canLayAll0, ok_disk]
theorem lay_nd (n : Nd) : PyData.canLay0 (ndD n) = true := by simp [ndD, PyData.canLay0, PyData.canLayAll0, lay_map lay_dsk, ok_sort]
theorem lay_cfg {c : Cfg} (h : PyData.strOk c.name = true) : PyData.canLay0 (cfgD c) = true := by simp [cfgD, PyData.canLay0, PyData.canLayAll0, lay_map lay_nd, h]
theorem dep_dsk (g : Int) : PyData.depth (dskD g) ≤ 10 := by simp [dskD, PyData.depth, PyData.depthAll]
theorem dep_nd (n : Nd) : PyData.depth (ndD n) ≤ 20 := by
 have := dep_map dep_dsk n.cs
 simp [ndD, PyData.depth, PyData.depthAll]
 omega
theorem dep_cfg (c : Cfg) : PyData.depth (cfgD c) ≤ 30 := by
 have := dep_map dep_nd c.tops
 simp [cfgD, PyData.depth, PyData.depthAll]
 omega
theorem shaped_cfg {c : Cfg} (h : PyData.strOk c.name = true) : SeqAt.shaped (cfgD c) = true := by
 have := dep_cfg c
 show (PyData.canLay0 (cfgD c) && decide (PyData.depth (cfgD c) ≤ 64)) = true
 rw [lay_cfg h, decide_eq_true (by omega)]
 rfl
theorem shaped_out (o : Option Cfg) (h : ∀ c, o = some c → PyData.strOk c.name = true) : SeqAt.shaped (outD o) = true := by
 cases o with
 | none => kernel_rfl
 | some c => exact shaped_cfg (h c rfl)
theorem ok_strL (L : List UInt8) : PyData.strOk (strL L) = true := by
 unfold PyData.strOk strL
 simp only [List.all_toArray, List.all_map, all_eq_true, Function.comp_apply, decide_eq_true_eq]
 intro c _
 have := c.toNat_lt
 omega
theorem rdCfg_name {L : List UInt8} {c : Cfg} (h : rdCfg L = some c) : PyData.strOk c.name = true := by
 unfold rdCfg at h
 split at h
 ·cases e : rdT L 5 with
  | none => rw [e] at h; cases h
  | some t =>
   rw [e, Option.bind_some] at h
   split at h
   ·cases e' : rep (rdTop L) (nb L (t.2 + 12) 1).toNat (t.2 + 13) with
    | none => rw [e'] at h; cases h
    | some x =>
     rw [e'] at h
     cases h
     exact ok_strL _
   ·cases h
 ·cases h
noncomputable def k387 : Ctr := fun vs m Q X => ∃ (L : List UInt8) (a b : Int), vs = [iV (toI L), .int a, .int b] ∧ m = none ∧ L.length ≤ 80000 ∧ Q (.bool true) none
theorem k387_mk (L : List UInt8) (a b : Int) (e0 : vs = [iV (toI L), .int a, .int b]) (e1 : m = none) (e2 : L.length ≤ 80000) (e3 : Q (.bool true) none) : k387 vs m Q X := ⟨L, a, b, e0, e1, e2, e3⟩
theorem toI_app (a b : List UInt8) : toI (a ++ b) = toI a ++ toI b := map_append
theorem pick_upto (L : List UInt8) (p : Nat) : pickV ((toI L).map V.int) none (some (p : Int)) none = (toI (L.take p)).map V.int := by
 rw [pickV_run]
 have e1 : kms_lo none ((toI L).map V.int).length = 0 := rfl
 have e2 : kms_hi (some (p : Int)) ((toI L).map V.int).length = min p L.length := by unfold kms_hi; simp only [length_map, toI_len]; rw [if_neg (by omega)]; omega
 rw [e1, e2, List.drop_zero, Nat.sub_zero, toI, toI, ← List.map_take, ← List.map_take]
 congr 2
 by_cases h : p ≤ L.length
 ·rw [Nat.min_eq_left h]
 ·rw [Nat.min_eq_right (by omega), take_of_length_le (Nat.le_refl _), take_of_length_le (by omega)]
theorem pick_from (L : List UInt8) (p : Nat) (h : p ≤ L.length) : pickV ((toI L).map V.int) (some (p : Int)) none none = (toI (L.drop p)).map V.int := by
 rw [pickV_run]
 have e1 : kms_lo (some (p : Int)) ((toI L).map V.int).length = p := by unfold kms_lo; simp only [length_map, toI_len]; rw [if_neg (by omega)]; omega
 have e2 : kms_hi none ((toI L).map V.int).length = L.length := by unfold kms_hi; simp only [length_map, toI_len]
 rw [e1, e2, toI, toI, ← List.map_drop, ← List.map_drop, take_of_length_le (by simp only [length_map, length_drop]; omega)]
theorem upd_e {A B : List UInt8} {xx : Int} (hx : 0 ≤ xx ∧ xx < 256) : ((toI A).map V.int ++ [V.int xx]) ++ (toI B).map V.int = (toI (A ++ [xx.toNat.toUInt8] ++ B)).map V.int := by
 have : ((xx.toNat.toUInt8).toNat : Int) = xx := by
  rw [show xx.toNat.toUInt8.toNat = xx.toNat from Nat.mod_eq_of_lt (by omega)]
  omega
 simp only [toI, map_append, map_cons, map_nil, this]
theorem b387 {L : List UInt8} {a b : Int} (h373 : Γ 373 = k366) (h366 : Γ 366 = k366) (hL : L.length ≤ 80000) (h : Q (.bool true) none) : bd (stN 45) Γ ["octets", "a", "b"] [iV (toI L), .int a, .int b] none Q X := by
 have tL : (toI L).length = L.length := toI_len L
 have sh : ∀ L, SeqAt.shaped (outD (rdCfg L)) = true := fun L => shaped_out _ fun c hc => rdCfg_name hc
 refine chk_le_mk (by simp only [length_map]; rw [tL]; unfold lstLine; omega) ?_
 refine chk_le_mk (by rw [length_map, tL]; unfold lstLine; omega) ?_
 have hpl : 0 ≤ a.fmod (((((toI L).map V.int).length : Nat) : Int) + 3) ∧ a.fmod (((((toI L).map V.int).length : Nat) : Int) + 3) < (L.length : Int) + 3 := by
  rw [length_map, tL]
  exact ⟨Int.fmod_nonneg_of_pos _ (by omega), Int.fmod_lt_of_pos _ (by omega)⟩
 obtain ⟨p, ep⟩ := Int.eq_ofNat_of_zero_le hpl.1
 rw [ep] at hpl
 rw [ep, pick_upto]
 refine br_dec (fun c1 => ?_) (fun c1 => ?_)
 ·refine cL ?_
  refine br_dec (fun c2 => ?_) (fun c2 => ?_)
  ·have c2 : (p : Int) < (((toI L).map V.int).length : Int) := c2
   rw [length_map, tL] at c2
   have hpL : p < L.length := by omega
   have tD : (toI (L.drop (p + 1))).length = L.length - (p + 1) := by rw [toI_len, length_drop]
   have tT : (toI (L.take p)).length = min p L.length := by rw [toI_len, length_take]
   refine br_dec (fun e => ?_) (fun e => ?_)
   ·refine chk_mk (natLt_iff (n := 2 ^ 63).mpr ⟨Int.natCast_nonneg _, by omega⟩) ?_
    refine oE (a := .int ((L[p]'hpL).toNat : Int)) (by rw [Int.toNat_natCast, List.getElem?_map, toI, List.getElem?_map, List.getElem?_eq_getElem hpL]; rfl) ?_
    have hx : 0 ≤ (((L[p]'hpL).toNat : Int) + 1 + (b.fdiv 3).fmod 255).fmod 256 ∧ (((L[p]'hpL).toNat : Int) + 1 + (b.fdiv 3).fmod 255).fmod 256 < 256 := ⟨Int.fmod_nonneg_of_pos _ (by decide), Int.fmod_lt_of_pos _ (by decide)⟩
    refine cL ?_
    rw [pick_upto]
    refine cL ?_
    refine cL ?_
    have e0 : ((p : Int) + 1) = ((p + 1 : Nat) : Int) := rfl
    rw [e0, pick_from _ _ (by omega)]
    refine cL ?_
    rw [upd_e hx]
    refine ca h373 (k366_mk (L.take p ++ [_] ++ L.drop (p + 1)) rfl rfl (by simp only [length_append, length_take, length_drop, length_cons, length_nil]; omega) ?_)
    refine ca h366 (k366_mk (L.take p ++ [_] ++ L.drop (p + 1)) rfl rfl (by simp only [length_append, length_take, length_drop, length_cons, length_nil]; omega) ?_)
    exact eqT_mk (toPyM_out _ _) (toPyM_out _ _) (sh _) (sh _) (eqv_out _) h
   ·have n7 : 0 ≤ (b.fdiv 3).fmod 7 ∧ (b.fdiv 3).fmod 7 < 7 := ⟨Int.fmod_nonneg_of_pos _ (by decide), Int.fmod_lt_of_pos _ (by decide)⟩
    refine chk_mk (natLt_iff (n := 2 ^ 63).mpr ⟨n7.1, by omega⟩) ?_
    obtain ⟨j, ej⟩ := Int.eq_ofNat_of_zero_le n7.1
    rw [ej] at n7 ⊢
    rw [Int.toNat_natCast]
    have hx : ∃ xx, [V.int 0, V.int 1, V.int 2, V.int 3, V.int 4, V.int 127, V.int 255][j]? = some (V.int xx) ∧ 0 ≤ xx ∧ xx < 256 := by
     have hj : j < 7 := by omega
     match j, hj with
     | 0, _ => exact ⟨0, rfl, by decide⟩
     | 1, _ => exact ⟨1, rfl, by decide⟩
     | 2, _ => exact ⟨2, rfl, by decide⟩
     | 3, _ => exact ⟨3, rfl, by decide⟩
     | 4, _ => exact ⟨4, rfl, by decide⟩
     | 5, _ => exact ⟨127, rfl, by decide⟩
     | 6, _ => exact ⟨255, rfl, by decide⟩
     | j + 7, hj => omega
    obtain ⟨xx, ex, hx⟩ := hx
    refine oE ex ?_
    refine cL ?_
    rw [pick_upto]
    refine cL ?_
    refine cL ?_
    have e0 : ((p : Int) + 1) = ((p + 1 : Nat) : Int) := rfl
    rw [e0, pick_from _ _ (by omega)]
    refine cL ?_
    rw [upd_e hx]
    refine ca h373 (k366_mk (L.take p ++ [_] ++ L.drop (p + 1)) rfl rfl (by simp only [length_append, length_take, length_drop, length_cons, length_nil]; omega) ?_)
    refine ca h366 (k366_mk (L.take p ++ [_] ++ L.drop (p + 1)) rfl rfl (by simp only [length_append, length_take, length_drop, length_cons, length_nil]; omega) ?_)
    exact eqT_mk (toPyM_out _ _) (toPyM_out _ _) (sh _) (sh _) (eqv_out _) h
  ·refine ca h373 (k366_mk (L.take p) rfl rfl (by rw [length_take]; omega) ?_)
   refine ca h366 (k366_mk (L.take p) rfl rfl (by rw [length_take]; omega) ?_)
   exact eqT_mk (toPyM_out _ _) (toPyM_out _ _) (sh _) (sh _) (eqv_out _) h
 ·refine ca h373 (k366_mk (L.take p) rfl rfl (by rw [length_take]; omega) ?_)
  refine ca h366 (k366_mk (L.take p) rfl rfl (by rw [length_take]; omega) ?_)
  exact eqT_mk (toPyM_out _ _) (toPyM_out _ _) (sh _) (sh _) (eqv_out _) h
theorem loop_inv' {α : Type} {FB : (DS → Prop) → QR → DS → Prop} {g : α → List (Str × V)} {Rt : QR} {I : List α → DS → Prop} {xs : List α} (h : ∀ pre x post st N, pre ++ x :: post = xs → I pre st → (∀ st', I (pre ++ [x]) st' → N st') → FB N Rt (setAll st (g x))) :
  ∀ (post pre : List α) (st : DS), pre ++ post = xs → I pre st → (∀ st', I xs st' → N st') → loopB FB (post.map g) N Rt st
 | [], pre, st, e, hi, hn => by
  rw [append_nil] at e
  subst e; exact hn _ hi
 | x :: post, pre, st, e, hi, hn => h pre x post st _ e hi fun st' hi' => loop_inv' h post (pre ++ [x]) st' (by rw [append_assoc]; exact e) hi' hn
theorem loop_inv {α : Type} {FB : (DS → Prop) → QR → DS → Prop} {g : α → List (Str × V)} {Rt : QR} (I : List α → DS → Prop) {xs : List α} {st : DS} (h : ∀ pre x post st N, pre ++ x :: post = xs → I pre st → (∀ st', I (pre ++ [x]) st' → N st') → FB N Rt (setAll st (g x))) (h0 : I [] st) (hn : ∀ st', I xs st' → N st') : loopW FB (xs.map g) N Rt st := ⟨loop_inv' h xs [] st rfl h0 hn⟩
noncomputable def dg (a : Int) (n : Nat) : List Int := digitsL a n
noncomputable def encDsk (g : Int) : List Int := [0] ++ dg g 4 ++ [0, 0]
noncomputable def encPl : Pl → List Int
 | .disk g => encDsk g
 | .mir gs => [1] ++ dg (lawNum gs 0) 4 ++ [0, (gs.length : Int)] ++ gs.flatMap encDsk
 | .rz p gs => [2] ++ dg (lawNum gs p) 4 ++ [p, (gs.length : Int)] ++ gs.flatMap encDsk
 | .odd _ _ => []
noncomputable def encH (name : Str) (guid ed : Int) (n : Nat) : List Int := dg 1953654117 4 ++ [1, (name.length : Int)] ++ (name.cps.toList.map fun c : Nat => (c : Int)) ++ dg guid 8 ++ dg ed 4 ++ [(n : Int)]
noncomputable def encI (name : Str) (guid ed : Int) (ps : List Pl) : List Int := encH name guid ed ps.length ++ ps.flatMap encPl
theorem dg_len (a : Int) (n : Nat) : (dg a n).length = n := by rw [dg, digitsL, length_map, length_range]
theorem encDsk_len (g : Int) : (encDsk g).length = 7 := by simp [encDsk, dg_len]
theorem flatDsk_len : ∀ gs : List Int, (gs.flatMap encDsk).length = 7 * gs.length
 | [] => rfl
 | g :: gs => by rw [flatMap_cons, length_append, encDsk_len, flatDsk_len gs, length_cons]; omega
theorem encPl_len {p : Pl} (h : wfPl p) : (encPl p).length ≤ 100 := by
 cases p with
 | disk g => have := encDsk_len g; simp only [encPl]; omega
 | mir gs => have := h.1; simp only [encPl, length_append, dg_len, flatDsk_len, length_cons, length_nil]; omega
 | rz q gs => have := h.1; simp only [encPl, length_append, dg_len, flatDsk_len, length_cons, length_nil]; omega
 | odd => exact Nat.zero_le _
theorem flatPl_len : ∀ {ps : List Pl}, (∀ p ∈ ps, wfPl p) → (ps.flatMap encPl).length ≤ 100 * ps.length
 | [], _ => Nat.le_refl _
 | p :: ps, h => by
  have h1 := encPl_len (h p (.head _))
  have h2 := flatPl_len (ps := ps) fun q hq => h q (.tail _ hq)
  rw [flatMap_cons, length_append, length_cons]
  omega
theorem encH_len (name : Str) (guid ed : Int) (n : Nat) : (encH name guid ed n).length = name.length + 19 := by
 have nl : name.cps.toList.length = name.length := Array.length_toList
 simp only [encH, length_append, dg_len, length_cons, length_nil, length_map, nl]
 omega
noncomputable def tailOk (t : List (Str × V)) : Prop := t = [] ∨ (∃ a b c, t = [(ofString "plan", a), (ofString "guids", b), (ofString "parity", c)]) ∨ (∃ a b c d, t = [(ofString "plan", a), (ofString "guids", b), (ofString "parity", c), (ofString "one", d)])
noncomputable def body39 : List Stmt := match (fB (stN 39))[2]? with
 | some (PySem.Stmt.For _ _ b _ _) => b
 | _ => []
noncomputable abbrev lsP (nm : Str) (gd ed : Int) (pl : V) (F : List Int) : List (Str × V) := [(ofString "name", .str nm), (ofString "guid", .int gd), (ofString "edition", .int ed), (ofString "plans", pl), (ofString "found", iV F)]
noncomputable def tail1 (x : V) (t : List (Str × V)) : Prop := t = [(ofString "plan", x)] ∨ (∃ b c, t = [(ofString "plan", x), (ofString "guids", b), (ofString "parity", c)]) ∨ (∃ b c d, t = [(ofString "plan", x), (ofString "guids", b), (ofString "parity", c), (ofString "one", d)])
noncomputable def if39 : List Stmt × List Stmt := match body39[1]? with
 | some (PySem.Stmt.If _ b o _) => (b, o)
 | _ => ([], [])
theorem d39a {nm pl p1 : V} {g gd ed : Int} {F : List V} {Rt : QR} (h346 : Γ 346 = k346) (lF : F.length ≤ 1000) {t : List (Str × V)} (ht : t = [] ∨ ∃ d, t = [(ofString "one", d)])
 (h : N ⟨[(ofString "name", nm), (ofString "guid", .int gd), (ofString "edition", .int ed), (ofString "plans", pl), (ofString "found", .lst (((F ++ [V.int 0]) ++ (digitsL g 4).map V.int) ++ [V.int 0, V.int 0])), (ofString "plan", p1), (ofString "guids", iV [g]), (ofString "parity", .int 0)] ++ t, []⟩) :
 exs theT Γ 40 false ⟨fS (stN 39), none⟩ 18 if39.1 N Rt X ⟨[(ofString "name", nm), (ofString "guid", .int gd), (ofString "edition", .int ed), (ofString "plans", pl), (ofString "found", .lst F), (ofString "plan", p1), (ofString "guids", iV [g]), (ofString "parity", .int 0)] ++ t, []⟩ := by
 have ld : ∀ a n, (digitsL a n).length = n := fun a n => by rw [digitsL, length_map, length_range]
 rcases ht with rfl | ⟨d, rfl⟩
 all_goals
  refine chk_le_mk (by simp only [length_map, length_append, length_cons, length_nil, ld]; unfold lstLine; omega) ?_
  refine ca h346 (k346_mk _ _ rfl rfl (by omega) ?_)
  refine chk_le_mk (by simp only [length_map, length_append, length_cons, length_nil, ld]; unfold lstLine; omega) ?_
  refine chk_le_mk (by simp only [length_map, length_append, length_cons, length_nil, ld]; unfold lstLine; omega) ?_
  exact h
theorem d39 {nm pl : V} {g gd ed : Int} {F : List V} {Rt : QR} {t : List (Str × V)} (h331 : Γ 331 = k331) (h346 : Γ 346 = k346) (wx : wfPl (.disk g)) (lF : F.length ≤ 1000) (ht : tail1 (dskV g) t)
 (h : ∀ t, tailOk t → N ⟨[(ofString "name", nm), (ofString "guid", .int gd), (ofString "edition", .int ed), (ofString "plans", pl), (ofString "found", .lst (((F ++ [V.int 0]) ++ (digitsL g 4).map V.int) ++ [V.int 0, V.int 0]))] ++ t, []⟩) :
 exs theT Γ 40 false ⟨fS (stN 39), none⟩ 19 body39 N Rt X ⟨[(ofString "name", nm), (ofString "guid", .int gd), (ofString "edition", .int ed), (ofString "plans", pl), (ofString "found", .lst F)] ++ t, []⟩ := by
 rcases ht with rfl | ⟨b, c, rfl⟩ | ⟨b, c, d, rfl⟩
 ·refine ca h331 (k331_mk (.disk g) rfl rfl wx rfl ?_)
  refine kr ?_ (d39a (nm := nm) (pl := pl) (p1 := dskV g) (gd := gd) (ed := ed) (F := F) (N := N) (Rt := Rt) (X := X) (t := []) h346 lF (.inl rfl) (h _ (.inr (.inl ⟨dskV g, iV [g], .int 0, rfl⟩))))
  kernel_rfl!
 ·refine ca h331 (k331_mk (.disk g) rfl rfl wx rfl ?_)
  refine kr ?_ (d39a (nm := nm) (pl := pl) (p1 := dskV g) (gd := gd) (ed := ed) (F := F) (N := N) (Rt := Rt) (X := X) (t := []) h346 lF (.inl rfl) (h _ (.inr (.inl ⟨dskV g, iV [g], .int 0, rfl⟩))))
  kernel_rfl!
 ·refine ca h331 (k331_mk (.disk g) rfl rfl wx rfl ?_)
  refine kr ?_ (d39a (nm := nm) (pl := pl) (p1 := dskV g) (gd := gd) (ed := ed) (F := F) (N := N) (Rt := Rt) (X := X) (t := [(ofString "one", d)]) h346 lF (.inr ⟨d, rfl⟩) (h _ (.inr (.inr ⟨dskV g, iV [g], .int 0, d, rfl⟩))))
  kernel_rfl!
noncomputable def encDV (g : Int) : List V := ([V.int 0] ++ (digitsL g 4).map V.int) ++ [V.int 0, V.int 0]
theorem flatDV_len : ∀ gs : List Int, (gs.flatMap encDV).length = 7 * gs.length
 | [] => rfl
 | g :: gs => by
  have : (encDV g).length = 7 := by simp [encDV, digitsL]
  rw [flatMap_cons, length_append, this, flatDV_len gs, length_cons]; omega
noncomputable abbrev s39 (Γ : Addr → Ctr) : Stmt → (DS → Prop) → QR → (Str → Prop) → DS → Prop := exStep theT Γ 40 false ⟨fS (stN 39), none⟩ (exs theT Γ 40 false ⟨fS (stN 39), none⟩ 17)
noncomputable abbrev st39 (nm : V) (gd ed : Int) (pl : V) (F : List V) (p1 : V) (gs : List Int) (p : Int) (t : List (Str × V)) : DS := ⟨[(ofString "name", nm), (ofString "guid", .int gd), (ofString "edition", .int ed), (ofString "plans", pl), (ofString "found", .lst F), (ofString "plan", p1), (ofString "guids", iV gs), (ofString "parity", .int p)] ++ t, []⟩
noncomputable def for39 : List Stmt := match if39.2[1]? with
 | some (PySem.Stmt.For _ _ b _ _) => b
 | _ => []
theorem lb39 {nm pl p1 : V} {gd ed p : Int} {gs : List Int} {F : List V} {Rt : QR} {x : Int} (h346 : Γ 346 = k346) (lF : F.length ≤ 1200) (h : N (st39 nm gd ed pl (F ++ encDV x) p1 gs p [(ofString "one", .int x)])) :
 exs theT Γ 40 false ⟨fS (stN 39), none⟩ 17 for39 N Rt X (st39 nm gd ed pl F p1 gs p [(ofString "one", .int x)]) := by
 have ld : ∀ a n, (digitsL a n).length = n := fun a n => by rw [digitsL, length_map, length_range]
 have e : ((F ++ [V.int 0]) ++ (digitsL x 4).map V.int) ++ [V.int 0, V.int 0] = F ++ encDV x := by rw [encDV, ← append_assoc, ← append_assoc]
 rw [← e] at h
 refine chk_le_mk (by simp only [length_map, length_append, length_cons, length_nil, ld]; unfold lstLine; omega) ?_
 refine ca h346 (k346_mk _ _ rfl rfl (by omega) ?_)
 refine chk_le_mk (by simp only [length_map, length_append, length_cons, length_nil, ld]; unfold lstLine; omega) ?_
 refine chk_le_mk (by simp only [length_map, length_append, length_cons, length_nil, ld]; unfold lstLine; omega) ?_
 exact h
theorem el39 {nm pl p1 : V} {gd ed p : Int} {gs : List Int} {F : List V} {Rt : QR} {t : List (Str × V)} (h346 : Γ 346 = k346) (lF : F.length ≤ 1020) (hg : gs.length ≤ 8) (ht : (t = [] ∨ ∃ d, t = [(ofString "one", d)])) (h : ∀ t, (t = [] ∨ ∃ d, t = [(ofString "one", d)]) → N (st39 nm gd ed pl (F ++ gs.flatMap encDV) p1 gs p t)) :
 exl (s39 Γ) (if39.2.drop 1) N Rt X (st39 nm gd ed pl F p1 gs p t) := by
 have B : ∀ (pre : List Int) (x : Int) (post : List Int), pre ++ x :: post = gs → ∀ N, N (st39 nm gd ed pl (F ++ (pre ++ [x]).flatMap encDV) p1 gs p [(ofString "one", .int ((pre ++ [x]).getLastD 0))]) → exs theT Γ 40 false ⟨fS (stN 39), none⟩ 17 for39 N Rt X (st39 nm gd ed pl (F ++ pre.flatMap encDV) p1 gs p [(ofString "one", .int x)]) := fun pre x post e N hN => by
  rw [flatMap_append, flatMap_cons, flatMap_nil, append_nil, lastD_app, ← append_assoc] at hN
  have lx : pre.length ≤ 8 := by rw [← e, length_append] at hg; omega
  exact lb39 h346 (by rw [length_append, flatDV_len]; omega) hN
 have Z : gs = [] → N (st39 nm gd ed pl F p1 gs p t) := fun e => by
  have z := h t ht
  rw [e, flatMap_nil, append_nil] at z
  rw [e]; exact z
 have E : F ++ List.flatMap encDV [] = F := by rw [flatMap_nil, append_nil]
 rcases ht with rfl | ⟨d, rfl⟩
 ·refine lmm (loop_pre (fun pre => st39 nm gd ed pl (F ++ pre.flatMap encDV) p1 gs p [(ofString "one", .int (pre.getLastD 0))]) (fun pre x post e N hN => B pre x post e N hN) (fun x => ?_) Z (fun _ => h _ (.inr ⟨_, rfl⟩)))
  rw [E]; rfl
 ·refine lmm (loop_pre (fun pre => st39 nm gd ed pl (F ++ pre.flatMap encDV) p1 gs p [(ofString "one", .int (pre.getLastD 0))]) (fun pre x post e N hN => B pre x post e N hN) (fun x => ?_) Z (fun _ => h _ (.inr ⟨_, rfl⟩)))
  rw [E]; rfl
theorem e39 {nm pl p1 : V} {gd ed p k : Int} {gs : List Int} {F : List V} {Rt : QR} (h341 : Γ 341 = k341) (h346 : Γ 346 = k346) (lF : F.length ≤ 1000) (hk : (p = 0 ∧ k = 1) ∨ (1 ≤ p ∧ k = 2)) (hp : p ≤ 8) (hg : gs.length ≤ 8) (hgs : ∀ g ∈ gs, okG g) {t : List (Str × V)} (ht : t = [] ∨ ∃ d, t = [(ofString "one", d)])
 (h : ∀ t, (t = [] ∨ ∃ d, t = [(ofString "one", d)]) → N ⟨[(ofString "name", nm), (ofString "guid", .int gd), (ofString "edition", .int ed), (ofString "plans", pl), (ofString "found", .lst ((((F ++ [V.int k]) ++ (digitsL (lawNum gs p) 4).map V.int) ++ [V.int p, V.int gs.length]) ++ gs.flatMap encDV)), (ofString "plan", p1), (ofString "guids", iV gs), (ofString "parity", .int p)] ++ t, []⟩) :
 exs theT Γ 40 false ⟨fS (stN 39), none⟩ 18 if39.2 N Rt X ⟨[(ofString "name", nm), (ofString "guid", .int gd), (ofString "edition", .int ed), (ofString "plans", pl), (ofString "found", .lst F), (ofString "plan", p1), (ofString "guids", iV gs), (ofString "parity", .int p)] ++ t, []⟩ := by
 have ld : ∀ a n, (digitsL a n).length = n := fun a n => by rw [digitsL, length_map, length_range]
 have lI : (gs.map V.int).length = gs.length := length_map ..
 have h' : ∀ t, (t = [] ∨ ∃ d, t = [(ofString "one", d)]) → N (st39 nm gd ed pl (((((F ++ [V.int k]) ++ (digitsL (lawNum gs p) 4).map V.int) ++ [V.int p, V.int ((gs.map V.int).length : Nat)])) ++ gs.flatMap encDV) p1 gs p t) := fun t ht => by rw [lI]; exact h t ht
 have l1 : ∀ k, ((((F ++ [V.int k]) ++ (digitsL (lawNum gs p) 4).map V.int) ++ [V.int p, V.int ((gs.map V.int).length : Nat)])).length ≤ 1020 := fun k => by simp only [length_map, length_append, length_cons, length_nil, ld]; omega
 refine br_dec (fun e => ?_) (fun e => ?_)
 ·obtain ⟨e0, rfl⟩ : p = 0 ∧ k = 1 := by omega
  refine chk_le_mk (by simp only [length_map, length_append, length_cons, length_nil, ld]; unfold lstLine; omega) ?_
  refine ca h341 (k341_mk gs p rfl rfl (by omega) (by omega) hgs ?_)
  refine ca h346 (k346_mk _ _ rfl rfl (by omega) ?_)
  refine chk_le_mk (by simp only [length_map, length_append, length_cons, length_nil, ld]; unfold lstLine; omega) ?_
  refine chk_le_mk (by simp only [length_map, length_append, length_cons, length_nil, ld]; unfold lstLine; omega) ?_
  refine chk_le_mk (by simp only [length_map, length_append, length_cons, length_nil, ld]; unfold lstLine; omega) ?_
  refine kr ?_ (el39 (Rt := Rt) (X := X) h346 (l1 1) hg ht h')
  kernel_rfl!
 ·obtain ⟨e0, rfl⟩ : 1 ≤ p ∧ k = 2 := by omega
  refine chk_le_mk (by simp only [length_map, length_append, length_cons, length_nil, ld]; unfold lstLine; omega) ?_
  refine ca h341 (k341_mk gs p rfl rfl (by omega) (by omega) hgs ?_)
  refine ca h346 (k346_mk _ _ rfl rfl (by omega) ?_)
  refine chk_le_mk (by simp only [length_map, length_append, length_cons, length_nil, ld]; unfold lstLine; omega) ?_
  refine chk_le_mk (by simp only [length_map, length_append, length_cons, length_nil, ld]; unfold lstLine; omega) ?_
  refine chk_le_mk (by simp only [length_map, length_append, length_cons, length_nil, ld]; unfold lstLine; omega) ?_
  refine kr ?_ (el39 (Rt := Rt) (X := X) h346 (l1 2) hg ht h')
  kernel_rfl!
theorem m39 {nm pl : V} {gd ed : Int} {gs : List Int} {F : List V} {Rt : QR} {t : List (Str × V)} (h331 : Γ 331 = k331) (h341 : Γ 341 = k341) (h346 : Γ 346 = k346) (wx : wfPl (.mir gs)) (lF : F.length ≤ 1000) (ht : tail1 (planV (.mir gs)) t)
 (h : ∀ t, tailOk t → N ⟨[(ofString "name", nm), (ofString "guid", .int gd), (ofString "edition", .int ed), (ofString "plans", pl), (ofString "found", .lst ((((F ++ [V.int 1]) ++ (digitsL (lawNum gs 0) 4).map V.int) ++ [V.int 0, V.int gs.length]) ++ gs.flatMap encDV))] ++ t, []⟩) :
 exs theT Γ 40 false ⟨fS (stN 39), none⟩ 19 body39 N Rt X ⟨[(ofString "name", nm), (ofString "guid", .int gd), (ofString "edition", .int ed), (ofString "plans", pl), (ofString "found", .lst F)] ++ t, []⟩ := by
 have fin : ∀ t, (t = [] ∨ ∃ d, t = [(ofString "one", d)]) → tailOk ([(ofString "plan", planV (.mir gs)), (ofString "guids", iV gs), (ofString "parity", .int 0)] ++ t) := by
  rintro t (rfl | ⟨d, rfl⟩)
  ·exact .inr (.inl ⟨_, _, _, rfl⟩)
  ·exact .inr (.inr ⟨_, _, _, d, rfl⟩)
 rcases ht with rfl | ⟨b, c, rfl⟩ | ⟨b, c, d, rfl⟩
 ·refine ca h331 (k331_mk (.mir gs) rfl rfl wx rfl ?_)
  refine kr ?_ (e39 (nm := nm) (pl := pl) (p1 := planV (.mir gs)) (p := 0) (k := 1) (gd := gd) (ed := ed) (F := F) (N := N) (Rt := Rt) (X := X) (t := []) h341 h346 lF (.inl ⟨rfl, rfl⟩) (by decide) wx.1 wx.2 (.inl rfl) fun t ht => h _ (fin t ht))
  kernel_rfl!
 ·refine ca h331 (k331_mk (.mir gs) rfl rfl wx rfl ?_)
  refine kr ?_ (e39 (nm := nm) (pl := pl) (p1 := planV (.mir gs)) (p := 0) (k := 1) (gd := gd) (ed := ed) (F := F) (N := N) (Rt := Rt) (X := X) (t := []) h341 h346 lF (.inl ⟨rfl, rfl⟩) (by decide) wx.1 wx.2 (.inl rfl) fun t ht => h _ (fin t ht))
  kernel_rfl!
 ·refine ca h331 (k331_mk (.mir gs) rfl rfl wx rfl ?_)
  refine kr ?_ (e39 (nm := nm) (pl := pl) (p1 := planV (.mir gs)) (p := 0) (k := 1) (gd := gd) (ed := ed) (F := F) (N := N) (Rt := Rt) (X := X) (t := [(ofString "one", d)]) h341 h346 lF (.inl ⟨rfl, rfl⟩) (by decide) wx.1 wx.2 (.inr ⟨d, rfl⟩) fun t ht => h _ (fin t ht))
  kernel_rfl!
theorem r39 {nm pl : V} {gd ed p : Int} {gs : List Int} {F : List V} {Rt : QR} {t : List (Str × V)} (h331 : Γ 331 = k331) (h341 : Γ 341 = k341) (h346 : Γ 346 = k346) (wx : wfPl (.rz p gs)) (p1 : 1 ≤ p) (lF : F.length ≤ 1000) (ht : tail1 (planV (.rz p gs)) t)
 (h : ∀ t, tailOk t → N ⟨[(ofString "name", nm), (ofString "guid", .int gd), (ofString "edition", .int ed), (ofString "plans", pl), (ofString "found", .lst ((((F ++ [V.int 2]) ++ (digitsL (lawNum gs p) 4).map V.int) ++ [V.int p, V.int gs.length]) ++ gs.flatMap encDV))] ++ t, []⟩) :
 exs theT Γ 40 false ⟨fS (stN 39), none⟩ 19 body39 N Rt X ⟨[(ofString "name", nm), (ofString "guid", .int gd), (ofString "edition", .int ed), (ofString "plans", pl), (ofString "found", .lst F)] ++ t, []⟩ := by
 have fin : ∀ t, (t = [] ∨ ∃ d, t = [(ofString "one", d)]) → tailOk ([(ofString "plan", planV (.rz p gs)), (ofString "guids", iV gs), (ofString "parity", .int p)] ++ t) := by
  rintro t (rfl | ⟨d, rfl⟩)
  ·exact .inr (.inl ⟨_, _, _, rfl⟩)
  ·exact .inr (.inr ⟨_, _, _, d, rfl⟩)
 rcases ht with rfl | ⟨b, c, rfl⟩ | ⟨b, c, d, rfl⟩
 ·refine ca h331 (k331_mk (.rz p gs) rfl rfl wx rfl ?_)
  refine kr ?_ (e39 (nm := nm) (pl := pl) (p1 := planV (.rz p gs)) (p := p) (k := 2) (gd := gd) (ed := ed) (F := F) (N := N) (Rt := Rt) (X := X) (t := []) h341 h346 lF (.inr ⟨p1, rfl⟩) wx.2.1.2 wx.1 wx.2.2 (.inl rfl) fun t ht => h _ (fin t ht))
  kernel_rfl!
 ·refine ca h331 (k331_mk (.rz p gs) rfl rfl wx rfl ?_)
  refine kr ?_ (e39 (nm := nm) (pl := pl) (p1 := planV (.rz p gs)) (p := p) (k := 2) (gd := gd) (ed := ed) (F := F) (N := N) (Rt := Rt) (X := X) (t := []) h341 h346 lF (.inr ⟨p1, rfl⟩) wx.2.1.2 wx.1 wx.2.2 (.inl rfl) fun t ht => h _ (fin t ht))
  kernel_rfl!
 ·refine ca h331 (k331_mk (.rz p gs) rfl rfl wx rfl ?_)
  refine kr ?_ (e39 (nm := nm) (pl := pl) (p1 := planV (.rz p gs)) (p := p) (k := 2) (gd := gd) (ed := ed) (F := F) (N := N) (Rt := Rt) (X := X) (t := [(ofString "one", d)]) h341 h346 lF (.inr ⟨p1, rfl⟩) wx.2.1.2 wx.1 wx.2.2 (.inr ⟨d, rfl⟩) fun t ht => h _ (fin t ht))
  kernel_rfl!
theorem encDV_map : ∀ gs : List Int, (gs.flatMap encDsk).map V.int = gs.flatMap encDV
 | [] => rfl
 | g :: gs => by
  rw [flatMap_cons, flatMap_cons, map_append, encDV_map gs]
  simp only [encDsk, encDV, dg, map_append, map_cons, map_nil]
noncomputable def k351 : Ctr := fun vs m Q X => ∃ name guid ed ps, vs = [.str name, .int guid, .int ed, .lst (ps.map planV)] ∧ m = none ∧ name.length ≤ 255 ∧ ps.length ≤ 3 ∧ (∀ p ∈ ps, wfPl p ∧ okPl p = true) ∧ Q (iV (encI name guid ed ps)) none
theorem k351_mk (name) (guid) (ed) (ps) (e0 : vs = [.str name, .int guid, .int ed, .lst (ps.map planV)]) (e1 : m = none) (e2 : name.length ≤ 255) (e3 : ps.length ≤ 3) (e4 : (∀ p ∈ ps, wfPl p ∧ okPl p = true)) (e5 : Q (iV (encI name guid ed ps)) none) : k351 vs m Q X := ⟨name, guid, ed, ps, e0, e1, e2, e3, e4, e5⟩
theorem x39 {nm : Str} {gd ed : Int} {pl : V} {F : List Int} {x : Pl} {t : List (Str × V)} {Rt : QR} (h331 : Γ 331 = k331) (h341 : Γ 341 = k341) (h346 : Γ 346 = k346) (wx : wfPl x) (ox : okPl x = true) (lF : F.length ≤ 1000) (ht : tail1 (planV x) t) (h : ∀ t, tailOk t → N ⟨lsP nm gd ed pl (F ++ encPl x) ++ t, []⟩) :
  exs theT Γ 40 false ⟨fS (stN 39), none⟩ 19 body39 N Rt X ⟨lsP nm gd ed pl F ++ t, []⟩ := by
 have lF' : (F.map V.int).length ≤ 1000 := by rw [length_map]; exact lF
 cases x with
 | odd => cases ox
 | disk g =>
  have ef : V.lst (((F.map V.int ++ [V.int 0]) ++ (digitsL g 4).map V.int) ++ [V.int 0, V.int 0]) = iV (F ++ encPl (.disk g)) := by
   simp only [iV, encPl, encDsk, dg, map_append, map_cons, map_nil, append_assoc]
  exact d39 h331 h346 wx lF' ht fun t ht => ef ▸ h t ht
 | mir gs =>
  have ef : V.lst ((((F.map V.int ++ [V.int 1]) ++ (digitsL (lawNum gs 0) 4).map V.int) ++ [V.int 0, V.int gs.length]) ++ gs.flatMap encDV) = iV (F ++ encPl (.mir gs)) := by
   simp only [iV, encPl, dg, map_append, map_cons, map_nil, append_assoc, encDV_map]
  exact m39 h331 h341 h346 wx lF' ht fun t ht => ef ▸ h t ht
 | rz p gs =>
  have ef : V.lst ((((F.map V.int ++ [V.int 2]) ++ (digitsL (lawNum gs p) 4).map V.int) ++ [V.int p, V.int gs.length]) ++ gs.flatMap encDV) = iV (F ++ encPl (.rz p gs)) := by
   simp only [iV, encPl, dg, map_append, map_cons, map_nil, append_assoc, encDV_map]
  have p1 : 1 ≤ p := of_decide_eq_true (and_tt (and_tt (show (decide (1 ≤ p) && decide (p ≤ 3) && decide (p < (gs.length : Int))) = true from ox)).1).1
  exact r39 h331 h341 h346 wx p1 lF' ht fun t ht => ef ▸ h t ht
theorem tl39 {nm : Str} {gd ed : Int} {pl x : V} {F : List Int} {t : List (Str × V)} (ht : tailOk t) : ∃ t', tail1 x t' ∧ setAll ⟨lsP nm gd ed pl F ++ t, []⟩ [(ofString "plan", x)] = ⟨lsP nm gd ed pl F ++ t', []⟩ := by
 rcases ht with rfl | ⟨a, b, c, rfl⟩ | ⟨a, b, c, d, rfl⟩
 ·exact ⟨_, .inl rfl, rfl⟩
 ·exact ⟨_, .inr (.inl ⟨b, c, rfl⟩), rfl⟩
 ·exact ⟨_, .inr (.inr ⟨b, c, d, rfl⟩), rfl⟩
theorem lo39 {nm : Str} {gd ed : Int} {ps : List Pl} {H : List Int} {v : List V} {Rt : QR} (h331 : Γ 331 = k331) (h341 : Γ 341 = k341) (h346 : Γ 346 = k346) (hl : ps.length ≤ 3) (hw : ∀ p ∈ ps, wfPl p ∧ okPl p = true) (lH : H.length ≤ 300) (ev : v = H.map V.int) (h : ∀ st, Rt (iV (H ++ ps.flatMap encPl)) (some st)) :
  exl (exStep theT Γ 40 false ⟨fS (stN 39), none⟩ (exs theT Γ 40 false ⟨fS (stN 39), none⟩ 19)) ((fB (stN 39)).drop 2) N Rt X ⟨[(ofString "name", .str nm), (ofString "guid", .int gd), (ofString "edition", .int ed), (ofString "plans", .lst (ps.map planV)), (ofString "found", .lst v)], []⟩ := by
 subst ev
 refine lmm (loop_inv (fun pre st => ∃ t, tailOk t ∧ st = ⟨lsP nm gd ed (.lst (ps.map planV)) (H ++ pre.flatMap encPl) ++ t, []⟩) (fun pre x post st N e hi hN => ?_) ⟨[], .inl rfl, ?_⟩ (fun st' hi => ?_))
 ·obtain ⟨t, ht, rfl⟩ := hi
  obtain ⟨t', ht', et⟩ := tl39 (nm := nm) (gd := gd) (ed := ed) (pl := .lst (ps.map planV)) (x := planV x) (F := H ++ pre.flatMap encPl) ht
  show exs theT Γ 40 false ⟨fS (stN 39), none⟩ 19 body39 N _ X (setAll _ [(ofString "plan", planV x)])
  rw [et]
  have hx := hw x (e ▸ mem_append_right _ (List.mem_cons_self ..))
  have lp := flatPl_len (ps := pre) fun p hp => (hw p (e ▸ mem_append_left _ hp)).1
  have lpre : pre.length ≤ 3 := by rw [← e, length_append] at hl; omega
  refine x39 h331 h341 h346 hx.1 hx.2 (by rw [length_append]; omega) ht' fun t ht => hN _ ⟨t, ht, ?_⟩
  rw [flatMap_append, flatMap_cons, flatMap_nil, append_nil, append_assoc]
 ·show _ = (⟨lsP nm gd ed (.lst (ps.map planV)) (H ++ []) ++ [], []⟩ : DS)
  rw [append_nil, append_nil]
 ·obtain ⟨t, ht, rfl⟩ := hi
  rcases ht with rfl | ⟨a, b, c, rfl⟩ | ⟨a, b, c, d, rfl⟩
  all_goals exact h _
theorem b351 {name : Str} {guid ed : Int} {ps : List Pl} (h331 : Γ 331 = k331) (h341 : Γ 341 = k341) (h346 : Γ 346 = k346) (hn : name.length ≤ 255) (hl : ps.length ≤ 3) (hw : ∀ p ∈ ps, wfPl p ∧ okPl p = true) (h : Q (iV (encI name guid ed ps)) none) : bd (stN 39) Γ ["name", "guid", "edition", "plans"] [.str name, .int guid, .int ed, .lst (ps.map planV)] none Q X := by
 have ld : ∀ a n, (digitsL a n).length = n := fun a n => by rw [digitsL, length_map, length_range]
 have nl : name.cps.toList.length = name.length := Array.length_toList
 have lp : (ps.map planV).length = ps.length := length_map ..
 have eH : ((((((digitsL 1953654117 4).map V.int ++ [V.int 1, .int name.length]) ++ name.cps.toList.map fun c : Nat => .int (c : Int)) ++ (digitsL guid 8).map V.int) ++ (digitsL ed 4).map V.int) ++ [V.int (ps.map planV).length]) = (encH name guid ed ps.length).map V.int := by
  simp only [encH, dg, map_append, map_cons, map_nil, map_map, length_map]
  rfl
 refine ca h346 (k346_mk _ _ rfl rfl (by omega) ?_)
 refine chk_le_mk (by unfold lstLine; omega) ?_
 refine chk_le_mk (by simp only [length_map, nl]; unfold lstLine; omega) ?_
 refine cmm (compT_map (f := fun c : Nat => .int (c : Int)) (fun c _ K hK => hK) (fun _ _ => rfl) ?_)
 refine chk_le_mk (by simp only [length_map, nl, length_append, length_cons, length_nil, ld]; unfold lstLine; omega) ?_
 refine ca h346 (k346_mk _ _ rfl rfl (by omega) ?_)
 refine chk_le_mk (by simp only [length_map, nl, length_append, length_cons, length_nil, ld]; unfold lstLine; omega) ?_
 refine ca h346 (k346_mk _ _ rfl rfl (by omega) ?_)
 refine chk_le_mk (by simp only [length_map, nl, length_append, length_cons, length_nil, ld]; unfold lstLine; omega) ?_
 refine chk_le_mk (by simp only [length_map]; unfold lstLine; omega) ?_
 refine chk_le_mk (by simp only [length_map, nl, length_append, length_cons, length_nil, ld]; unfold lstLine; omega) ?_
 refine kr ?_ (lo39 (nm := name) (gd := guid) (ed := ed) (X := X) (N := fun st => Q .none (mOf false st)) (Rt := fun v o => match o with | some st => Q v (mOf false st) | none => true = true ∧ Q v none) h331 h341 h346 hl hw (by rw [encH_len]; omega) eH fun _ => h)
 kernel_rfl!
noncomputable def k68 : Ctr := fun vs m Q X => ∃ a n, vs = [.int a, .int n] ∧ m = none ∧ (0 ≤ n ∧ n ≤ 8) ∧ (0 ≤ a ∧ a < 256 ^ n.toNat) ∧ Q (.bytes (byteArr (digitsL a n.toNat))) none
theorem k68_mk (a) (n) (e0 : vs = [.int a, .int n]) (e1 : m = none) (e2 : (0 ≤ n ∧ n ≤ 8)) (e3 : (0 ≤ a ∧ a < 256 ^ n.toNat)) (e4 : Q (.bytes (byteArr (digitsL a n.toNat))) none) : k68 vs m Q X := ⟨a, n, e0, e1, e2, e3, e4⟩
theorem b68 {a n : Int} (hn : 0 ≤ n ∧ n ≤ 8) (ha : 0 ≤ a ∧ a < 256 ^ n.toNat) (h : Q (.bytes (byteArr (digitsL a n.toNat))) none) : bd (stN 6) Γ ["number", "size"] [.int a, .int n] none Q X := by
 refine br_t (decide_eq_true ha.1) ?_
 refine chk_mk (by rw [show smallN 256 = true from rfl, Bool.and_true]; exact powK_mk (by omega) (by omega)) ?_
 refine br_f (by show (!decide (a < 256 ^ n.toNat)) = false; rw [decide_eq_true ha.2]; rfl) ?_
 refine chk_mk (rng_mk (by omega) (by omega) (by omega) (by omega)) ?_
 show chk _ (compW _ (List.map _ (List.map _ (List.range (n - 0).toNat))) _ _)
 rw [map_map, Int.sub_zero, length_map, length_range]
 refine chk_le_mk (by unfold lstLine; omega) (compT_map (f := fun k => .int ((a.fdiv (256 ^ k)).fmod 256)) (fun k hk K hK => ?_) (fun _ _ => rfl) ?_)
 ·refine chk_mk (or_t rfl) ?_
  have e1 : (8 * (0 + (k : Int))).toNat = 8 * k := by omega
  have e2 : (2 : Int) ^ (8 * k) = 256 ^ k := by rw [Int.pow_mul]; rfl
  have e3 : Builtin.bitAnd (a.fdiv (2 ^ (8 * (0 + (k : Int))).toNat)) 255 = (a.fdiv (256 ^ k)).fmod 256 := by
   rw [bitAnd_m8, e1, e2, Int.fmod_eq_emod_of_nonneg _ (by decide)]
  exact kr (congrArg (fun z => K (.int z) _) e3.symm) hK
 ·refine oE (intsOf_map _ _) ?_
  refine ⟨fun z hz => ?_, ?_⟩
  ·obtain ⟨c, hc, rfl⟩ := mem_map.mp hz
   have := Int.fmod_nonneg_of_pos (a.fdiv (256 ^ c)) (b := 256) (by decide)
   have := Int.fmod_lt_of_pos (a.fdiv (256 ^ c)) (b := 256) (by decide)
   omega
  refine chk_le_mk (by simp only [length_map, length_range]; unfold lstLine; omega) ?_
  exact h
noncomputable def k73 : Ctr := fun vs m Q X => ∃ s : Str, vs = [.str s] ∧ m = none ∧ s.length ≤ 255 ∧ (∀ c ∈ s.cps.toList, 32 ≤ c ∧ c < 127) ∧ Q (.bytes (byteArr (s.cps.toList.map fun c : Nat => (c : Int)))) none
theorem k73_mk (s : Str) (e0 : vs = [.str s]) (e1 : m = none) (e2 : s.length ≤ 255) (e3 : (∀ c ∈ s.cps.toList, 32 ≤ c ∧ c < 127)) (e4 : Q (.bytes (byteArr (s.cps.toList.map fun c : Nat => (c : Int)))) none) : k73 vs m Q X := ⟨s, e0, e1, e2, e3, e4⟩
theorem b73 {s : Str} (hs : s.length ≤ 255) (hp : ∀ c ∈ s.cps.toList, 32 ≤ c ∧ c < 127) (h : Q (.bytes (byteArr (s.cps.toList.map fun c : Nat => (c : Int)))) none) : bd (stN 7) Γ ["text"] [.str s] none Q X := by
 have nl : s.cps.toList.length = s.length := Array.length_toList
 refine chk_le_mk (by simp only [length_map, nl]; unfold lstLine; omega) ?_
 refine cmm ?_
 refine compT_map (f := fun c : Nat => .int (c : Int)) (fun c _ K hK => by exact hK) (fun _ _ => rfl) ?_
 refine chk_le_mk (by simp only [length_map, nl]; unfold lstLine; omega) ?_
 refine cmm ?_
 refine compT_map (f := fun c : Nat => .bool true) (fun c hc K hK => ?_) (fun _ _ => rfl) ?_
 ·have := hp c hc
  refine br_t (decide_eq_true (show (32 : Int) ≤ c by omega)) ?_
  exact (congrArg (fun b => K (.bool b) _) (decide_eq_true (show (c : Int) < 127 by omega))).mpr hK
 refine oE (boolsOf_map _ _) ?_
 have e : ((s.cps.toList.map fun _ : Nat => true).all id) = true := by rw [List.all_map]; exact all_eq_true.mpr fun _ _ => rfl
 refine br_f (show (!((s.cps.toList.map fun _ : Nat => true).all id)) = false by rw [e]; rfl) ?_
 refine oE (intsOf_map _ _) ?_
 refine ⟨fun z hz => ?_, ?_⟩
 ·obtain ⟨c, hc, rfl⟩ := mem_map.mp hz
  have := hp c hc
  omega
 refine chk_le_mk (by simp only [length_map, nl]; unfold lstLine; omega) ?_
 exact h
section
noncomputable def fA : Stmt → Arguments
 | .FunctionDef _ a .. => a
 | _ => default
noncomputable def fN : Stmt → Str
 | .FunctionDef n .. => n
 | _ => default
noncomputable abbrev fD (s : Stmt) (qual : String) (dV pm cdv : Value) : FuncData := fnX (fN s) (ofString qual) (fA s) (fB s) (fS s) [] dV .none .none pm none cdv .none
noncomputable def PB (P : Params) (fd : FuncData) (names : List String) (n : Nat) (dv : List Value) : Prop := ∀ vals : List Value, vals.length = n → ∀ S, peek (theK P) S (bindArgs fd ⟨vals, []⟩) = some ((names.map ofString).zip (vals ++ dv))
section
variable {fd : FuncData} {names : List String} {dv : List Value}
theorem len_zero {α : Type} {l : List α} (h : l.length = 0) : l = [] := List.eq_nil_of_length_eq_zero h
theorem len_succ {α : Type} {l : List α} {n : Nat} (h : l.length = n + 1) : ∃ a r, l = a :: r ∧ r.length = n := by
 cases l with
 | nil => exact nomatch h
 | cons a r => exact ⟨a, r, rfl, Nat.succ.inj h⟩
theorem pb0 (h : ∀ S, peek (theK P) S (bindArgs fd ⟨[], []⟩) = some ((names.map ofString).zip ([] ++ dv))) : PB P fd names 0 dv := fun vals e0 S => by
 obtain rfl := len_zero e0
 exact h S
theorem pb1 (h : ∀ a S, peek (theK P) S (bindArgs fd ⟨[a], []⟩) = some ((names.map ofString).zip ([a] ++ dv))) : PB P fd names 1 dv := fun vals e0 S => by
 obtain ⟨a, vals, rfl, e1⟩ := len_succ e0
 obtain rfl := len_zero e1
 exact h a S
theorem pb2 (h : ∀ a b S, peek (theK P) S (bindArgs fd ⟨[a, b], []⟩) = some ((names.map ofString).zip ([a, b] ++ dv))) : PB P fd names 2 dv := fun vals e0 S => by
 obtain ⟨a, vals, rfl, e1⟩ := len_succ e0
 obtain ⟨b, vals, rfl, e2⟩ := len_succ e1
 obtain rfl := len_zero e2
 exact h a b S
theorem pb3 (h : ∀ a b c S, peek (theK P) S (bindArgs fd ⟨[a, b, c], []⟩) = some ((names.map ofString).zip ([a, b, c] ++ dv))) : PB P fd names 3 dv := fun vals e0 S => by
 obtain ⟨a, vals, rfl, e1⟩ := len_succ e0
 obtain ⟨b, vals, rfl, e2⟩ := len_succ e1
 obtain ⟨c, vals, rfl, e3⟩ := len_succ e2
 obtain rfl := len_zero e3
 exact h a b c S
theorem pb4 (h : ∀ a b c d S, peek (theK P) S (bindArgs fd ⟨[a, b, c, d], []⟩) = some ((names.map ofString).zip ([a, b, c, d] ++ dv))) : PB P fd names 4 dv := fun vals e0 S => by
 obtain ⟨a, vals, rfl, e1⟩ := len_succ e0
 obtain ⟨b, vals, rfl, e2⟩ := len_succ e1
 obtain ⟨c, vals, rfl, e3⟩ := len_succ e2
 obtain ⟨d, vals, rfl, e4⟩ := len_succ e3
 obtain rfl := len_zero e4
 exact h a b c d S
theorem pb5 (h : ∀ a b c d e S, peek (theK P) S (bindArgs fd ⟨[a, b, c, d, e], []⟩) = some ((names.map ofString).zip ([a, b, c, d, e] ++ dv))) : PB P fd names 5 dv := fun vals e0 S => by
 obtain ⟨a, vals, rfl, e1⟩ := len_succ e0
 obtain ⟨b, vals, rfl, e2⟩ := len_succ e1
 obtain ⟨c, vals, rfl, e3⟩ := len_succ e2
 obtain ⟨d, vals, rfl, e4⟩ := len_succ e3
 obtain ⟨e, vals, rfl, e5⟩ := len_succ e4
 obtain rfl := len_zero e5
 exact h a b c d e S
end
theorem step_s {f : Addr} {φ : Ctr} (hG : G.K = theK P) (hΓ : ∀ f, SoundF G r f (Γ f)) (s : Stmt) (qual : String) (dV pm cdv : Value) (names : List String)
  (ho : (theK P).lookup f = some ⟨.type "function", none, .func (fD s qual dV pm cdv), #[]⟩) (hcd : codeIn (theK P) cdv (ofString qual) = true) (hs : fnChk (fS s) (names.map ofString) = true) (dls : List (List V × List Value))
  (hb : ∀ d ∈ dls, (∀ n, n + d.1.length = names.length → PB P (fD s qual dV pm cdv) names n d.2) ∧ ∀ g : PH, (∀ a o, (theK P).lookup a = some o → g a = some o) → VRs G g [] d.1 d.2)
  (hφ : ∀ vs m Q X, φ vs m Q X → (∃ d ∈ dls, vs.length + d.1.length = names.length) ∧ ∀ d ∈ dls, vs.length + d.1.length = names.length → bd s Γ names (vs ++ d.1) m Q X) : SoundF G (r + 2) f φ := by
 refine step_fn (hG ▸ tabs_ok P) hΓ (by rw [hG]; exact ho) rfl (by rw [hG]; exact hcd) (names.map ofString) hs (dls.map (·.1)) ?_ ?_
 ·intro dl hdl sh vals KI hl
  obtain ⟨d, hd, rfl⟩ := mem_map.mp hdl
  obtain ⟨pb, vr⟩ := hb d hd
  rw [length_map] at hl
  exact ⟨d.2, kp_binds KI (fun S => by rw [hG]; exact pb _ hl vals rfl S), fun g gb => vr g fun a o h => gb a o (G.X a o (hG ▸ h))⟩
 ·intro vs m Q X h
  obtain ⟨⟨d, hd, e⟩, q⟩ := hφ vs m Q X h
  refine ⟨⟨d.1, mem_map_of_mem hd, by rw [length_map]; exact e⟩, fun dl hdl e => ?_⟩
  obtain ⟨d, hd, rfl⟩ := mem_map.mp hdl
  exact q d hd (by rw [length_map] at e; exact e)
theorem step0 {f : Addr} {φ : Ctr} (hG : G.K = theK P) (hΓ : ∀ f, SoundF G r f (Γ f)) (s : Stmt) (qual : String) (dV pm cdv : Value) (names : List String)
  (ho : (theK P).lookup f = some ⟨.type "function", none, .func (fD s qual dV pm cdv), #[]⟩) (hcd : codeIn (theK P) cdv (ofString qual) = true) (hs : fnChk (fS s) (names.map ofString) = true) {n : Nat} (hn : names.length = n)
  (hb : PB P (fD s qual dV pm cdv) names n [])
  (hφ : ∀ vs m Q X, φ vs m Q X → vs.length = names.length ∧ bd s Γ names vs m Q X) : SoundF G (r + 2) f φ := by
 subst hn
 refine step_s hG hΓ s qual dV pm cdv names ho hcd hs [([], [])] (fun d hd => ?_) fun vs m Q X h => ?_
 ·obtain rfl := mem_singleton.mp hd
  exact ⟨fun n e => by obtain rfl : n = names.length := e; exact hb, fun g _ => .nil⟩
 ·obtain ⟨e, q⟩ := hφ vs m Q X h
  refine ⟨⟨_, .head _, e⟩, fun d hd _ => ?_⟩
  obtain rfl := mem_singleton.mp hd
  show bd s Γ names (vs ++ []) m Q X
  rw [append_nil]
  exact q
theorem SoundF.up {r r' : Nat} {f : Addr} {φ : Ctr} (h : SoundF G r f φ) (hr : r ≤ r') : SoundF G r' f φ :=
 fun A s fr g base b vals vs Q X Q' E' a1 a2 a3 a4 a5 => h A s fr g base b vals vs Q X Q' E' a1 a2 a3 (by omega) (by omega)
noncomputable def look (l : List (Addr × Ctr)) (f : Addr) : Ctr := match l.lookup f with
 | some c => c
 | none => fun _ _ _ _ => False
theorem look_nil (f : Addr) : SoundF G r f (look [] f) := fun A s fr g base b vals vs Q X Q' E' a1 a2 a3 a4 a5 a6 a7 a8 a9 h => h.elim
theorem look_all {l : List (Addr × Ctr)} (h : ∀ p ∈ l, SoundF G r p.1 p.2) (f : Addr) : SoundF G r f (look l f) := by
 unfold look
 cases e : l.lookup f with
 | none => exact fun A s fr g base b vals vs Q X Q' E' a1 a2 a3 a4 a5 a6 a7 a8 a9 h => h.elim
 | some c => exact lookup_all (Pr := fun a b => SoundF G r a b) h e
end
theorem s63 (hG : G.K = theK P) (hΓ : ∀ f, SoundF G r f (Γ f)) : SoundF G (r + 2) 63 k63 :=
 step0 hG hΓ (stN 5) "number_of" .none (.str (ofString "treepool.octets") 250) (.ref 62) ["octets"] (by kernel_rfl) (by kernel_rfl) (by kernel_rfl) rfl (pb1 fun a S => by kernel_rfl) fun vs m Q X h => by
  obtain ⟨b, rfl, rfl, h1, h2⟩ := h; exact ⟨rfl, b63 h1 h2⟩
theorem s149 (hG : G.K = theK P) (hΓ : ∀ f, SoundF G r f (Γ f)) : SoundF G (r + 2) 149 k149 :=
 step0 hG hΓ (cmN 10 1) "Cursor.left" .none (.str (ofString "treepool.octets") 250) (.ref 148) ["self"] (by kernel_rfl) (by kernel_rfl) (by kernel_rfl) rfl (pb1 fun a S => by kernel_rfl) fun vs m Q X h => by
 obtain ⟨b, a, rfl, rfl, h1, h2⟩ := h; exact ⟨rfl, b149 h1 h2⟩
theorem s239 (hG : G.K = theK P) (hΓ : ∀ f, SoundF G r f (Γ f)) : SoundF G (r + 2) 239 k239 :=
 step0 hG hΓ (stN 19) "sorts" .none (.str (ofString "treepool.config") 400) (.ref 238) [] (by kernel_rfl) (by kernel_rfl) (by kernel_rfl) rfl (pb0 fun S => by kernel_rfl) fun vs m Q X h => by
  cases vs with
  | cons _ _ => exact h.elim
  | nil => cases m with
   | some _ => exact h.elim
   | none => exact ⟨rfl, b239 h⟩
theorem s246 (hG : G.K = theK P) (hΓ : ∀ f, SoundF G r f (Γ f)) : SoundF G (r + 2) 246 k246 :=
 step0 hG hΓ (stN 20) "number_of_disks" .none (.str (ofString "treepool.config") 400) (.ref 245) ["guids", "parity"] (by kernel_rfl) (by kernel_rfl) (by kernel_rfl) rfl (pb2 fun a b S => by kernel_rfl) fun vs m Q X h => by
 obtain ⟨gs, p, rfl, rfl, h1, h2⟩ := h; exact ⟨rfl, b246 h1 h2⟩
theorem s312 (hG : G.K = theK P) (hΓ : ∀ f, SoundF G r f (Γ f)) : SoundF G (r + 2) 312 k312 :=
 step0 hG hΓ (stN 32) "_law_disks" .none (.str (ofString "law_np0189_01") 588) (.ref 311) ["a", "many"] (by kernel_rfl) (by kernel_rfl) (by kernel_rfl) rfl (pb2 fun a b S => by kernel_rfl) fun vs m Q X h => by
 obtain ⟨a, n, rfl, rfl, h1, h2⟩ := h; exact ⟨rfl, b312 h1 h2⟩
theorem s346 (hG : G.K = theK P) (hΓ : ∀ f, SoundF G r f (Γ f)) : SoundF G (r + 2) 346 k346 :=
 step0 hG hΓ (stN 38) "_law_digits" .none (.str (ofString "law_np0189_01") 588) (.ref 345) ["number", "size"] (by kernel_rfl) (by kernel_rfl) (by kernel_rfl) rfl (pb2 fun a b S => by kernel_rfl) fun vs m Q X h => by
 obtain ⟨a, n, rfl, rfl, h1, h2⟩ := h; exact ⟨rfl, b346 h1 h2⟩
theorem s341 (hG : G.K = theK P) (hΓ : ∀ f, SoundF G r f (Γ f)) : SoundF G (r + 2) 341 k341 :=
 step0 hG hΓ (stN 37) "_law_number" .none (.str (ofString "law_np0189_01") 588) (.ref 340) ["guids", "parity"] (by kernel_rfl) (by kernel_rfl) (by kernel_rfl) rfl (pb2 fun a b S => by kernel_rfl) fun vs m Q X h => by
 obtain ⟨gs, p, rfl, rfl, h1, h2, h3, h4⟩ := h; exact ⟨rfl, b341 h1 h2 h3 h4⟩
theorem s326 (hG : G.K = theK P) (hΓ : ∀ f, SoundF G r f (Γ f)) : SoundF G (r + 2) 326 k326 :=
 step0 hG hΓ (stN 34) "_law_is_disk" .none (.str (ofString "law_np0189_01") 588) (.ref 325) ["plan"] (by kernel_rfl) (by kernel_rfl) (by kernel_rfl) rfl (pb1 fun a S => by kernel_rfl) fun vs m Q X h => by
 obtain ⟨rfl, ⟨g, rfl, h1⟩ | ⟨⟨l, rfl⟩ | rfl | rfl, h1⟩⟩ := h
 ·exact ⟨rfl, b326 h1⟩
 ·exact ⟨rfl, b326a h1⟩
 ·exact ⟨rfl, b326b h1⟩
 ·exact ⟨rfl, b326c h1⟩
theorem s331 (hG : G.K = theK P) (hΓ : ∀ f, SoundF G r f (Γ f)) : SoundF G (r + 2) 331 k331 :=
 step0 hG hΓ (stN 35) "_law_guids" .none (.str (ofString "law_np0189_01") 588) (.ref 330) ["plan"] (by kernel_rfl) (by kernel_rfl) (by kernel_rfl) rfl (pb1 fun a S => by kernel_rfl) fun vs m Q X h => by
 obtain ⟨p, rfl, h1, h2, rfl, h3⟩ := h; exact ⟨rfl, b331 h1 h2 h3⟩
theorem s198d (hG : G.K = theK P) (hΓ : ∀ f, SoundF G r f (Γ f)) : SoundF G (r + 2) 198 k198d :=
 step0 hG hΓ (cmN 17 1) "Node.plain" .none (.str (ofString "treepool.config") 400) (.ref 197) ["self"] (by kernel_rfl) (by kernel_rfl) (by kernel_rfl) rfl (pb1 fun a S => by kernel_rfl) fun vs m Q X h => by
 obtain ⟨g, rfl, rfl, h1⟩ := h; exact ⟨rfl, b198d h1⟩
theorem s198 (hG : G.K = theK P) (hΓ : ∀ f, SoundF G r f (Γ f)) (h198 : Γ 198 = k198d) : SoundF G (r + 2) 198 k198 :=
 step0 hG hΓ (cmN 17 1) "Node.plain" .none (.str (ofString "treepool.config") 400) (.ref 197) ["self"] (by kernel_rfl) (by kernel_rfl) (by kernel_rfl) rfl (pb1 fun a S => by kernel_rfl) fun vs m Q X h => by
 obtain ⟨g, rfl, rfl, h1, h2⟩ := h; exact ⟨rfl, b198 h198 h1 h2⟩
theorem s263d (hG : G.K = theK P) (hΓ : ∀ f, SoundF G r f (Γ f)) : SoundF G (r + 2) 263 k263d :=
 step0 hG hΓ (stN 23) "plan_of" .none (.str (ofString "treepool.config") 400) (.ref 262) ["node"] (by kernel_rfl) (by kernel_rfl) (by kernel_rfl) rfl (pb1 fun a S => by kernel_rfl) fun vs m Q X h => by
 obtain ⟨g, rfl, rfl, h1⟩ := h; exact ⟨rfl, b263d h1⟩
theorem s263 (hG : G.K = theK P) (hΓ : ∀ f, SoundF G r f (Γ f)) (h263 : Γ 263 = k263d) : SoundF G (r + 2) 263 k263 :=
 step0 hG hΓ (stN 23) "plan_of" .none (.str (ofString "treepool.config") 400) (.ref 262) ["node"] (by kernel_rfl) (by kernel_rfl) (by kernel_rfl) rfl (pb1 fun a S => by kernel_rfl) fun vs m Q X h => by
 obtain ⟨g, rfl, h1, h2, rfl, h3⟩ := h; exact ⟨rfl, b263 h263 h1 h2 h3⟩
theorem s270d (hG : G.K = theK P) (hΓ : ∀ f, SoundF G r f (Γ f)) : SoundF G (r + 2) 270 k270d :=
 step0 hG hΓ (stN 24) "disks_of" .none (.str (ofString "treepool.config") 400) (.ref 269) ["node"] (by kernel_rfl) (by kernel_rfl) (by kernel_rfl) rfl (pb1 fun a S => by kernel_rfl) fun vs m Q X h => by
 obtain ⟨g, rfl, rfl, h1⟩ := h; exact ⟨rfl, b270e h1⟩
theorem s270 (hG : G.K = theK P) (hΓ : ∀ f, SoundF G r f (Γ f)) (h270 : Γ 270 = k270d) : SoundF G (r + 2) 270 k270 :=
 step0 hG hΓ (stN 24) "disks_of" .none (.str (ofString "treepool.config") 400) (.ref 269) ["node"] (by kernel_rfl) (by kernel_rfl) (by kernel_rfl) rfl (pb1 fun a S => by kernel_rfl) fun vs m Q X h => by
 obtain ⟨g, rfl, h1, rfl, h3⟩ := h; exact ⟨rfl, b270 h270 h1 h3⟩
theorem s253 (hG : G.K = theK P) (hΓ : ∀ f, SoundF G r f (Γ f)) (h28 : Γ 28 = k28) (h193 : Γ 193 = k193) : SoundF G (r + 2) 253 k253 :=
 step0 hG hΓ (stN 21) "disk_node" .none (.str (ofString "treepool.config") 400) (.ref 252) ["plan"] (by kernel_rfl) (by kernel_rfl) (by kernel_rfl) rfl (pb1 fun a S => by kernel_rfl) fun vs m Q X h => by
 obtain ⟨rfl, ⟨g, rfl, h1, h2⟩ | ⟨v, rfl, h1, h2⟩⟩ := h
 ·exact ⟨rfl, b253 h28 h193 h1 h2⟩
 ·exact ⟨rfl, b253x h28 h1 h2⟩
theorem s258 (hG : G.K = theK P) (hΓ : ∀ f, SoundF G r f (Γ f)) (h253 : Γ 253 = k253) (h239 : Γ 239 = k239) (h28 : Γ 28 = k28) (h193 : Γ 193 = k193) (h246 : Γ 246 = k246) : SoundF G (r + 2) 258 k258 :=
 step0 hG hΓ (stN 22) "node_of" .none (.str (ofString "treepool.config") 400) (.ref 257) ["plan"] (by kernel_rfl) (by kernel_rfl) (by kernel_rfl) rfl (pb1 fun a S => by kernel_rfl) fun vs m Q X h => by
 obtain ⟨p, rfl, h1, rfl, h2, h3⟩ := h; exact ⟨rfl, b258 h253 h239 h28 h193 h246 h1 h2 h3⟩
theorem s225 (hG : G.K = theK P) (hΓ : ∀ f, SoundF G r f (Γ f)) (h198 : Γ 198 = k198) : SoundF G (r + 2) 225 k225 :=
 step0 hG hΓ (cmN 18 1) "Config.plain" .none (.str (ofString "treepool.config") 400) (.ref 224) ["self"] (by kernel_rfl) (by kernel_rfl) (by kernel_rfl) rfl (pb1 fun a S => by kernel_rfl) fun vs m Q X h => by
 obtain ⟨p, rfl, rfl, h1, h2, h3⟩ := h; exact ⟨rfl, b225 h198 h1 h2 h3⟩
theorem s283 (hG : G.K = theK P) (hΓ : ∀ f, SoundF G r f (Γ f)) (h270 : Γ 270 = k270) : SoundF G (r + 2) 283 k283 :=
 step0 hG hΓ (stN 26) "all_disks" .none (.str (ofString "treepool.config") 400) (.ref 282) ["config"] (by kernel_rfl) (by kernel_rfl) (by kernel_rfl) rfl (pb1 fun a S => by kernel_rfl) fun vs m Q X h => by
 obtain ⟨p, rfl, rfl, h1, h2, h3⟩ := h; exact ⟨rfl, b283 h270 h1 h2 h3⟩
theorem s336 (hG : G.K = theK P) (hΓ : ∀ f, SoundF G r f (Γ f)) (h326 : Γ 326 = k326) : SoundF G (r + 2) 336 k336 :=
 step0 hG hΓ (stN 36) "_law_is_plan" .none (.str (ofString "law_np0189_01") 588) (.ref 335) ["plan"] (by kernel_rfl) (by kernel_rfl) (by kernel_rfl) rfl (pb1 fun a S => by kernel_rfl) fun vs m Q X h => by
 obtain ⟨p, rfl, h1, rfl, h2⟩ := h; exact ⟨rfl, b336 h326 h1 h2⟩
theorem s319 (hG : G.K = theK P) (hΓ : ∀ f, SoundF G r f (Γ f)) (h312 : Γ 312 = k312) : SoundF G (r + 2) 319 k319 :=
 step0 hG hΓ (stN 33) "_law_plan" .none (.str (ofString "law_np0189_01") 588) (.ref 318) ["a"] (by kernel_rfl) (by kernel_rfl) (by kernel_rfl) rfl (pb1 fun a S => by kernel_rfl) fun vs m Q X h => by
 obtain ⟨p, rfl, rfl, h1, h2⟩ := h; exact ⟨rfl, b319 h312 h1 h2⟩
theorem s156 (hG : G.K = theK P) (hΓ : ∀ f, SoundF G r f (Γ f)) (h28 : Γ 28 = k28) (h149 : Γ 149 = k149) : SoundF G (r + 2) 156 k156 :=
 step0 hG hΓ (cmN 10 2) "Cursor.take" .none (.str (ofString "treepool.octets") 250) (.ref 155) ["self", "many"] (by kernel_rfl) (by kernel_rfl) (by kernel_rfl) rfl (pb2 fun a b S => by kernel_rfl) fun vs m Q X h => by
 obtain ⟨b, a, n, rfl, rfl, h1, h2, h3, h4, h5⟩ := h; exact ⟨rfl, b156 h28 h149 h1 h2 h3 h4 h5⟩
theorem s163 (hG : G.K = theK P) (hΓ : ∀ f, SoundF G r f (Γ f)) (h63 : Γ 63 = k63) (h156 : Γ 156 = k156) : SoundF G (r + 2) 163 k163 :=
 step0 hG hΓ (cmN 10 3) "Cursor.number" .none (.str (ofString "treepool.octets") 250) (.ref 162) ["self", "size"] (by kernel_rfl) (by kernel_rfl) (by kernel_rfl) rfl (pb2 fun a b S => by kernel_rfl) fun vs m Q X h => by
 obtain ⟨b, a, n, rfl, rfl, h1, h2, h3, h4, h5⟩ := h; exact ⟨rfl, b163 h63 h156 h1 h2 h3 h4 h5⟩
theorem s78 (hG : G.K = theK P) (hΓ : ∀ f, SoundF G r f (Γ f)) (h28 : Γ 28 = k28) : SoundF G (r + 2) 78 k78 :=
 step0 hG hΓ (stN 8) "octets_text" .none (.str (ofString "treepool.octets") 250) (.ref 77) ["octets"] (by kernel_rfl) (by kernel_rfl) (by kernel_rfl) rfl (pb1 fun a S => by kernel_rfl) fun vs m Q X h => by
 obtain ⟨b, rfl, rfl, h1, h2, h3⟩ := h; exact ⟨rfl, b78 h28 h1 h2 h3⟩
theorem s170 (hG : G.K = theK P) (hΓ : ∀ f, SoundF G r f (Γ f)) (h78 : Γ 78 = k78) (h156 : Γ 156 = k156) (h163 : Γ 163 = k163) : SoundF G (r + 2) 170 k170 :=
 step0 hG hΓ (cmN 10 4) "Cursor.text" .none (.str (ofString "treepool.octets") 250) (.ref 169) ["self"] (by kernel_rfl) (by kernel_rfl) (by kernel_rfl) rfl (pb1 fun a S => by kernel_rfl) fun vs m Q X h => by
 obtain ⟨b, a, rfl, rfl, h1, h2, h3, h4⟩ := h; exact ⟨rfl, b170 h78 h156 h163 h1 h2 h3 h4⟩
theorem s302i (hG : G.K = theK P) (hΓ : ∀ f, SoundF G r f (Γ f)) (h28 : Γ 28 = k28) (h163 : Γ 163 = k163) (h193 : Γ 193 = k193) (h239 : Γ 239 = k239) : SoundF G (r + 2) 302 k302i :=
 step0 hG hΓ (stN 29) "read_node" .none (.str (ofString "treepool.config") 400) (.ref 301) ["cursor", "depth"] (by kernel_rfl) (by kernel_rfl) (by kernel_rfl) rfl (pb2 fun a b S => by kernel_rfl) fun vs m Q X h => by
 obtain ⟨b, a, rfl, rfl, h1, h2, h3, h4⟩ := h; exact ⟨rfl, b302i h28 h163 h193 h239 h1 h2 h3 h4⟩
theorem s302 (hG : G.K = theK P) (hΓ : ∀ f, SoundF G r f (Γ f)) (h28 : Γ 28 = k28) (h163 : Γ 163 = k163) (h193 : Γ 193 = k193) (h239 : Γ 239 = k239) (h302 : Γ 302 = k302i) : SoundF G (r + 2) 302 k302 :=
 step0 hG hΓ (stN 29) "read_node" .none (.str (ofString "treepool.config") 400) (.ref 301) ["cursor", "depth"] (by kernel_rfl) (by kernel_rfl) (by kernel_rfl) rfl (pb2 fun a b S => by kernel_rfl) fun vs m Q X h => by
 obtain ⟨b, a, rfl, rfl, h1, h2, h3, h4⟩ := h; exact ⟨rfl, b302 h28 h163 h193 h239 h302 h1 h2 h3 h4⟩
theorem s307 (hG : G.K = theK P) (hΓ : ∀ f, SoundF G r f (Γ f)) (h28 : Γ 28 = k28) (h142 : Γ 142 = k142) (h163 : Γ 163 = k163) (h170 : Γ 170 = k170) (h220 : Γ 220 = k220) (h302 : Γ 302 = k302) : SoundF G (r + 2) 307 k307 :=
 step0 hG hΓ (stN 30) "config_of" .none (.str (ofString "treepool.config") 400) (.ref 306) ["octets"] (by kernel_rfl) (by kernel_rfl) (by kernel_rfl) rfl (pb1 fun a S => by kernel_rfl) fun vs m Q X h => by
 obtain ⟨b, rfl, rfl, h1, h2, h3⟩ := h; exact ⟨rfl, b307 h28 h142 h163 h170 h220 h302 h1 h2 h3⟩
theorem s356 (hG : G.K = theK P) (hΓ : ∀ f, SoundF G r f (Γ f)) (h28 : Γ 28 = k28) : SoundF G (r + 2) 356 k356 :=
 step0 hG hΓ (stN 40) "_law_take" .none (.str (ofString "law_np0189_01") 588) (.ref 355) ["octets", "at", "size"] (by kernel_rfl) (by kernel_rfl) (by kernel_rfl) rfl (pb3 fun a b c S => by kernel_rfl) fun vs m Q X h => by
 obtain ⟨b, a, n, rfl, rfl, h1, h2, h3, h4, h5⟩ := h; exact ⟨rfl, b356 h28 h1 h2 h3 h4 h5⟩
theorem s361i (hG : G.K = theK P) (hΓ : ∀ f, SoundF G r f (Γ f)) (h28 : Γ 28 = k28) (h356 : Γ 356 = k356) : SoundF G (r + 2) 361 k361i :=
 step0 hG hΓ (stN 41) "_law_node" .none (.str (ofString "law_np0189_01") 588) (.ref 360) ["octets", "at", "is_inner"] (by kernel_rfl) (by kernel_rfl) (by kernel_rfl) rfl (pb3 fun a b c S => by kernel_rfl) fun vs m Q X h => by
 obtain ⟨b, a, rfl, rfl, h1, h2, h3, h4⟩ := h; exact ⟨rfl, b361i h28 h356 h1 h2 h3 h4⟩
theorem s361 (hG : G.K = theK P) (hΓ : ∀ f, SoundF G r f (Γ f)) (h28 : Γ 28 = k28) (h356 : Γ 356 = k356) (h361 : Γ 361 = k361i) : SoundF G (r + 2) 361 k361 :=
 step0 hG hΓ (stN 41) "_law_node" .none (.str (ofString "law_np0189_01") 588) (.ref 360) ["octets", "at", "is_inner"] (by kernel_rfl) (by kernel_rfl) (by kernel_rfl) rfl (pb3 fun a b c S => by kernel_rfl) fun vs m Q X h => by
 obtain ⟨b, a, rfl, rfl, h1, h2, h3, h4⟩ := h; exact ⟨rfl, b361 h28 h356 h361 h1 h2 h3 h4⟩
theorem s366 (hG : G.K = theK P) (hΓ : ∀ f, SoundF G r f (Γ f)) (h356 : Γ 356 = k356) (h361 : Γ 361 = k361) : SoundF G (r + 2) 366 k366 :=
 step0 hG hΓ (stN 42) "_law_read" .none (.str (ofString "law_np0189_01") 588) (.ref 365) ["octets"] (by kernel_rfl) (by kernel_rfl) (by kernel_rfl) rfl (pb1 fun a S => by kernel_rfl) fun vs m Q X h => by
 obtain ⟨L, rfl, rfl, h1, h2⟩ := h; exact ⟨rfl, b366 h356 h361 h1 h2⟩
theorem s373 (hG : G.K = theK P) (hΓ : ∀ f, SoundF G r f (Γ f)) (h307 : Γ 307 = k307) (h225 : Γ 225 = k225) : SoundF G (r + 2) 373 k366 :=
 step0 hG hΓ (stN 43) "_law_told" .none (.str (ofString "law_np0189_01") 588) (.ref 372) ["octets"] (by kernel_rfl) (by kernel_rfl) (by kernel_rfl) rfl (pb1 fun a S => by kernel_rfl) fun vs m Q X h => by
 obtain ⟨L, rfl, rfl, h1, h2⟩ := h; exact ⟨rfl, b373 h307 h225 h1 h2⟩
theorem s380 (hG : G.K = theK P) (hΓ : ∀ f, SoundF G r f (Γ f)) (h276 : Γ 276 = k276) : SoundF G (r + 2) 380 k380 :=
 step0 hG hΓ (stN 44) "_law_made" .none (.str (ofString "law_np0189_01") 588) (.ref 379) ["name", "guid", "edition", "plans"] (by kernel_rfl) (by kernel_rfl) (by kernel_rfl) rfl (pb4 fun a b c d S => by kernel_rfl) fun vs m Q X h => by
 obtain ⟨n, g, e, ps, rfl, rfl, h1, h2, h3, h4⟩ := h; exact ⟨rfl, b380 h276 h1 h2 h3 h4⟩
theorem s387 (hG : G.K = theK P) (hΓ : ∀ f, SoundF G r f (Γ f)) (h373 : Γ 373 = k366) (h366 : Γ 366 = k366) : SoundF G (r + 2) 387 k387 :=
 step0 hG hΓ (stN 45) "_law_is_read" .none (.str (ofString "law_np0189_01") 588) (.ref 386) ["octets", "a", "b"] (by kernel_rfl) (by kernel_rfl) (by kernel_rfl) rfl (pb3 fun a b c S => by kernel_rfl) fun vs m Q X h => by
 obtain ⟨L, a, b, rfl, rfl, h1, h2⟩ := h; exact ⟨rfl, b387 h373 h366 h1 h2⟩
theorem s351 (hG : G.K = theK P) (hΓ : ∀ f, SoundF G r f (Γ f)) (h331 : Γ 331 = k331) (h341 : Γ 341 = k341) (h346 : Γ 346 = k346) : SoundF G (r + 2) 351 k351 :=
 step0 hG hΓ (stN 39) "_law_octets" .none (.str (ofString "law_np0189_01") 588) (.ref 350) ["name", "guid", "edition", "plans"] (by kernel_rfl) (by kernel_rfl) (by kernel_rfl) rfl (pb4 fun a b c d S => by kernel_rfl) fun vs m Q X h => by
 obtain ⟨n, g, e, ps, rfl, rfl, h1, h2, h3, h4⟩ := h; exact ⟨rfl, b351 h331 h341 h346 h1 h2 h3 h4⟩
theorem s68 (hG : G.K = theK P) (hΓ : ∀ f, SoundF G r f (Γ f)) : SoundF G (r + 2) 68 k68 :=
 step0 hG hΓ (stN 6) "octets_of" .none (.str (ofString "treepool.octets") 250) (.ref 67) ["number", "size"] (by kernel_rfl) (by kernel_rfl) (by kernel_rfl) rfl (pb2 fun a b S => by kernel_rfl) fun vs m Q X h => by
 obtain ⟨a, n, rfl, rfl, h1, h2, h3⟩ := h; exact ⟨rfl, b68 h1 h2 h3⟩
theorem s73 (hG : G.K = theK P) (hΓ : ∀ f, SoundF G r f (Γ f)) : SoundF G (r + 2) 73 k73 :=
 step0 hG hΓ (stN 7) "text_octets" .none (.str (ofString "treepool.octets") 250) (.ref 72) ["text"] (by kernel_rfl) (by kernel_rfl) (by kernel_rfl) rfl (pb1 fun a S => by kernel_rfl) fun vs m Q X h => by
 obtain ⟨s, rfl, rfl, h1, h2, h3⟩ := h; exact ⟨rfl, b73 h1 h2 h3⟩
theorem b28 {s c : Str} (hc : c = ofString "Corrupt" ∨ c = ofString "Misused") (h : Q .none (some (.exc c true))) : bd (cmN 1 0) Γ ["self", "why"] [.cel 0, .str s] (some (.exc c false)) Q X := by
 rcases hc with rfl | rfl
 ·exact h
 ·exact h
theorem s28 (hG : G.K = theK P) (hΓ : ∀ f, SoundF G r f (Γ f)) : SoundF G (r + 2) 28 k28 :=
 step0 hG hΓ (cmN 1 0) "PoolFault.__init__" .none (.str (ofString "treepool.faults") 187) (.ref 27) ["self", "why"] (by kernel_rfl) (by kernel_rfl) (by kernel_rfl) rfl (pb2 fun a b S => by kernel_rfl) fun vs m Q X h => by
  obtain ⟨s, c, rfl, rfl, hc, h⟩ := h
  exact ⟨rfl, b28 hc h⟩
theorem isSeq_of {g : PH} {a : Addr} {vs : List Value} {n : Nat} (gb : ∀ a o, (theK P).lookup a = some o → g a = some o) (h : (theK P).lookup a = some ⟨.type "tuple", none, .seq vs.toArray n, #[]⟩) : IsSeq g "tuple" a vs := ⟨n, gb _ _ h⟩
theorem s142 (hG : G.K = theK P) (hΓ : ∀ f, SoundF G r f (Γ f)) : SoundF G (r + 2) 142 k142 :=
 step_s hG hΓ (cmN 10 0) "Cursor.__init__" (.ref 135) (.str (ofString "treepool.octets") 250) (.ref 141) ["self", "octets", "at"] (by kernel_rfl) (by kernel_rfl) (by kernel_rfl) [([.int 0], [.int 0 349])] (fun d hd => by
  obtain rfl := mem_singleton.mp hd
  exact ⟨fun n e => by obtain rfl : n = 2 := Nat.succ.inj e; exact pb2 fun a b S => by kernel_rfl, fun g _ => .cons (.int 0 349) .nil⟩) fun vs m Q X h => by
  obtain ⟨rfl, b, rfl, h⟩ := h
  refine ⟨⟨_, .head _, rfl⟩, fun d hd _ => ?_⟩
  obtain rfl := mem_singleton.mp hd
  exact b142 h
theorem s193 (hG : G.K = theK P) (hΓ : ∀ f, SoundF G r f (Γ f)) : SoundF G (r + 2) 193 k193 :=
 step_s hG hΓ (cmN 17 0) "Node.__init__" (.ref 186) (.str (ofString "treepool.config") 400) (.ref 192) ["self", "sort", "guid", "children", "parity"] (by kernel_rfl) (by kernel_rfl) (by kernel_rfl) [([], []), ([.tup [], .int 0], [.ref 185, .int 0 426])] (fun d hd => by
  rcases mem_cons.mp hd with rfl | hd
  ·exact ⟨fun n e => by obtain rfl : n = 5 := e; exact pb5 fun a b c d e S => by kernel_rfl, fun g _ => .nil⟩
  ·obtain rfl := mem_singleton.mp hd
   exact ⟨fun n e => by obtain rfl : n = 3 := Nat.succ.inj (Nat.succ.inj e); exact pb3 fun a b c S => by kernel_rfl, fun g gb => .cons (.tup (isSeq_of gb (n := 0) (vs := []) (by kernel_rfl)) .nil) (.cons (.int 0 426) .nil)⟩) fun vs m Q X h => by
  obtain ⟨rfl, ⟨s, g, ch, p, rfl, h1, h2⟩ | ⟨s, g, rfl, h2⟩⟩ := h
  ·refine ⟨⟨_, .head _, rfl⟩, fun d hd e => ?_⟩
   rcases mem_cons.mp hd with rfl | hd
   ·exact b193 h1 h2
   ·obtain rfl := mem_singleton.mp hd
    exact nomatch e
  ·refine ⟨⟨_, .tail _ (.head _), rfl⟩, fun d hd e => ?_⟩
   rcases mem_cons.mp hd with rfl | hd
   ·exact nomatch e
   ·obtain rfl := mem_singleton.mp hd
    exact b193' h2
theorem s220 (hG : G.K = theK P) (hΓ : ∀ f, SoundF G r f (Γ f)) : SoundF G (r + 2) 220 k220 :=
 step_s hG hΓ (cmN 18 0) "Config.__init__" (.ref 213) (.str (ofString "treepool.config") 400) (.ref 219) ["self", "name", "guid", "tops", "edition"] (by kernel_rfl) (by kernel_rfl) (by kernel_rfl) [([], [])] (fun d hd => by
  obtain rfl := mem_singleton.mp hd
  exact ⟨fun n e => by obtain rfl : n = 5 := e; exact pb5 fun a b c d e S => by kernel_rfl, fun g _ => .nil⟩) fun vs m Q X h => by
  obtain ⟨rfl, n, g, ts, e, rfl, h1, h2⟩ := h
  refine ⟨⟨_, .head _, rfl⟩, fun d hd e => ?_⟩
  obtain rfl := mem_singleton.mp hd
  exact b220 h1 h2
theorem s276 (hG : G.K = theK P) (hΓ : ∀ f, SoundF G r f (Γ f)) (h28 : Γ 28 = k28) (h258 : Γ 258 = k258) (h270 : Γ 270 = k270) (h220 : Γ 220 = k220) : SoundF G (r + 2) 276 k276 :=
 step_s hG hΓ (stN 25) "config_of_plans" (.ref 271) (.str (ofString "treepool.config") 400) (.ref 275) ["name", "guid", "plans", "edition"] (by kernel_rfl) (by kernel_rfl) (by kernel_rfl) [([], []), ([.int 1], [.int 1 542])] (fun d hd => by
  rcases mem_cons.mp hd with rfl | hd
  ·exact ⟨fun n e => by obtain rfl : n = 4 := e; exact pb4 fun a b c d S => by kernel_rfl, fun g _ => .nil⟩
  ·obtain rfl := mem_singleton.mp hd
   exact ⟨fun n e => by obtain rfl : n = 3 := Nat.succ.inj e; exact pb3 fun a b c S => by kernel_rfl, fun g gb => .cons (.int 1 542) .nil⟩) fun vs m Q X h => by
  obtain ⟨name, guid, ed, ps, hv, rfl, h1, h2, h3, h4⟩ := h
  rcases hv with rfl | ⟨rfl, rfl⟩
  ·refine ⟨⟨_, .head _, rfl⟩, fun d hd e => ?_⟩
   rcases mem_cons.mp hd with rfl | hd
   ·exact b276 h28 h258 h270 h220 h1 h2 h3 h4
   ·obtain rfl := mem_singleton.mp hd
    cases e
  ·refine ⟨⟨_, .tail _ (.head _), rfl⟩, fun d hd e => ?_⟩
   rcases mem_cons.mp hd with rfl | hd
   ·cases e
   ·obtain rfl := mem_singleton.mp hd
    exact b276 h28 h258 h270 h220 h1 h2 h3 h4
section
noncomputable abbrev G1 : List (Addr × Ctr) := [(28, k28), (63, k63), (142, k142), (149, k149), (193, k193), (220, k220), (239, k239), (246, k246), (312, k312), (326, k326), (331, k331), (341, k341), (346, k346), (198, k198d), (263, k263d), (270, k270d), (68, k68), (73, k73)]
theorem g1 (hG : G.K = theK P) : ∀ f, SoundF G 2 f (look G1 f) := by
 have z := look_nil (G := G) (r := 0)
 refine look_all ?_
 simp only [forall_mem_cons]
 exact ⟨s28 hG z, s63 hG z, s142 hG z, s149 hG z, s193 hG z, s220 hG z, s239 hG z, s246 hG z, s312 hG z, s326 hG z, s331 hG z, s341 hG z, s346 hG z, s198d hG z, s263d hG z, s270d hG z, s68 hG z, s73 hG z, fun _ h => by cases h⟩
noncomputable abbrev G2 : List (Addr × Ctr) := [(28, k28), (63, k63), (142, k142), (149, k149), (193, k193), (220, k220), (239, k239), (246, k246), (68, k68), (73, k73), (253, k253), (156, k156), (78, k78), (198, k198), (263, k263), (270, k270), (336, k336), (319, k319), (351, k351), (356, k356)]
theorem g2 (hG : G.K = theK P) : ∀ f, SoundF G 4 f (look G2 f) := by
 have z := g1 (P := P) hG
 have u : ∀ f, SoundF G 4 f (look G1 f) := fun f => (z f).up (by decide)
 refine look_all ?_
 simp only [forall_mem_cons]
 exact ⟨u 28, u 63, u 142, u 149, u 193, u 220, u 239, u 246, u 68, u 73, s253 hG z rfl rfl, s156 hG z rfl rfl, s78 hG z rfl, s198 hG z rfl, s263 hG z rfl, s270 hG z rfl, s336 hG z rfl, s319 hG z rfl, s351 hG z rfl rfl rfl, s356 hG z rfl, fun _ h => by cases h⟩
noncomputable abbrev G3 : List (Addr × Ctr) := [(28, k28), (63, k63), (142, k142), (193, k193), (220, k220), (239, k239), (68, k68), (73, k73), (156, k156), (78, k78), (198, k198), (263, k263), (270, k270), (336, k336), (319, k319), (351, k351), (356, k356), (258, k258), (163, k163), (225, k225), (283, k283), (361, k361i)]
theorem g3 (hG : G.K = theK P) : ∀ f, SoundF G 6 f (look G3 f) := by
 have z := g2 (P := P) hG
 have u : ∀ f, SoundF G 6 f (look G2 f) := fun f => (z f).up (by decide)
 refine look_all ?_
 simp only [forall_mem_cons]
 exact ⟨u 28, u 63, u 142, u 193, u 220, u 239, u 68, u 73, u 156, u 78, u 198, u 263, u 270, u 336, u 319, u 351, u 356, s258 hG z rfl rfl rfl rfl rfl, s163 hG z rfl rfl, s225 hG z rfl, s283 hG z rfl, s361i hG z rfl rfl, fun _ h => by cases h⟩
noncomputable abbrev G4 : List (Addr × Ctr) := [(28, k28), (142, k142), (193, k193), (220, k220), (239, k239), (68, k68), (73, k73), (263, k263), (336, k336), (319, k319), (351, k351), (356, k356), (258, k258), (163, k163), (225, k225), (283, k283), (170, k170), (302, k302i), (361, k361), (276, k276)]
theorem g4 (hG : G.K = theK P) : ∀ f, SoundF G 8 f (look G4 f) := by
 have z := g3 (P := P) hG
 have u : ∀ f, SoundF G 8 f (look G3 f) := fun f => (z f).up (by decide)
 refine look_all ?_
 simp only [forall_mem_cons]
 exact ⟨u 28, u 142, u 193, u 220, u 239, u 68, u 73, u 263, u 336, u 319, u 351, u 356, u 258, u 163, u 225, u 283, s170 hG z rfl rfl rfl, s302i hG z rfl rfl rfl rfl, s361 hG z rfl rfl rfl, s276 hG z rfl rfl rfl rfl, fun _ h => by cases h⟩
noncomputable abbrev G5 : List (Addr × Ctr) := [(28, k28), (142, k142), (220, k220), (239, k239), (68, k68), (73, k73), (263, k263), (336, k336), (319, k319), (351, k351), (258, k258), (163, k163), (225, k225), (283, k283), (170, k170), (302, k302), (366, k366), (380, k380)]
theorem g5 (hG : G.K = theK P) : ∀ f, SoundF G 10 f (look G5 f) := by
 have z := g4 (P := P) hG
 have u : ∀ f, SoundF G 10 f (look G4 f) := fun f => (z f).up (by decide)
 refine look_all ?_
 simp only [forall_mem_cons]
 exact ⟨u 28, u 142, u 220, u 239, u 68, u 73, u 263, u 336, u 319, u 351, u 258, u 163, u 225, u 283, u 170, s302 hG z rfl rfl rfl rfl rfl, s366 hG z rfl rfl, s380 hG z rfl, fun _ h => by cases h⟩
noncomputable abbrev G6 : List (Addr × Ctr) := [(239, k239), (68, k68), (73, k73), (263, k263), (336, k336), (319, k319), (351, k351), (258, k258), (225, k225), (283, k283), (366, k366), (380, k380), (307, k307)]
theorem g6 (hG : G.K = theK P) : ∀ f, SoundF G 12 f (look G6 f) := by
 have z := g5 (P := P) hG
 have u : ∀ f, SoundF G 12 f (look G5 f) := fun f => (z f).up (by decide)
 refine look_all ?_
 simp only [forall_mem_cons]
 exact ⟨u 239, u 68, u 73, u 263, u 336, u 319, u 351, u 258, u 225, u 283, u 366, u 380, s307 hG z rfl rfl rfl rfl rfl rfl, fun _ h => by cases h⟩
noncomputable abbrev G7 : List (Addr × Ctr) := [(239, k239), (68, k68), (73, k73), (263, k263), (336, k336), (319, k319), (351, k351), (258, k258), (225, k225), (283, k283), (366, k366), (380, k380), (373, k366)]
theorem g7 (hG : G.K = theK P) : ∀ f, SoundF G 14 f (look G7 f) := by
 have z := g6 (P := P) hG
 have u : ∀ f, SoundF G 14 f (look G6 f) := fun f => (z f).up (by decide)
 refine look_all ?_
 simp only [forall_mem_cons]
 exact ⟨u 239, u 68, u 73, u 263, u 336, u 319, u 351, u 258, u 225, u 283, u 366, u 380, s373 hG z rfl rfl, fun _ h => by cases h⟩
noncomputable abbrev G8 : List (Addr × Ctr) := [(239, k239), (68, k68), (73, k73), (263, k263), (336, k336), (319, k319), (351, k351), (331, k331), (258, k258), (225, k225), (283, k283), (366, k366), (380, k380), (373, k366), (387, k387)]
theorem g8 (hG : G.K = theK P) : ∀ f, SoundF G 16 f (look G8 f) := by
 have z := g7 (P := P) hG
 have u : ∀ f, SoundF G 16 f (look G7 f) := fun f => (z f).up (by decide)
 have z1 : SoundF G 16 331 k331 := (g1 hG 331).up (by decide)
 refine look_all ?_
 simp only [forall_mem_cons]
 exact ⟨u 239, u 68, u 73, u 263, u 336, u 319, u 351, z1, u 258, u 225, u 283, u 366, u 380, u 373, s387 hG z rfl rfl, fun _ h => by cases h⟩
end
section
noncomputable def decB : Code → Bool
 | .builtin id _ => Builtin.Bytes.decodersThatHold.contains id
 | _ => false
noncomputable def Cln (l : List (Code × Pos)) : Prop := ∀ x ∈ l, decB x.1 = false
noncomputable def wpC {α : Type} (M : Model) (A : Around) (t : Sem α) (Q : α → Shared → Prop) (s : Shared) : Prop :=
 ∀ Γ p, Γ.In A → decB Γ.code = false → Cln Γ.below → Sem.wp M Γ t (fun a _ s' => Q a s') (fun _ _ _ => False) p s
noncomputable def codeC (M : Model) (A : Around) (c : Code) (R : Flow → Shared → Prop) (s : Shared) : Prop :=
 ∀ Γ p, Γ.code = c → Γ.Below A → Cln Γ.below → wpCode M Γ (fun r s' => match r with | .ok f => R f s' | .error _ => False) p s
section
variable {α β : Type} {M : Model}
theorem wpC_of {t : Sem α} {Q : α → Shared → Prop} (h : wpAny M A t Q (fun _ _ => False) s) : wpC M A t Q s := fun Γ p hΓ _ _ => h Γ p hΓ
theorem codeC_of {c : Code} {R : Flow → Shared → Prop} (h : codeAny M A c (fun r s' => match r with | .ok f => R f s' | .error _ => False) s) : codeC M A c R s := fun Γ p e hΓ _ => h Γ p e hΓ
theorem wpC_pure {a : α} {Q : α → Shared → Prop} (h : Q a s) : wpC M A (pure a) Q s := fun _ _ _ _ _ => h
theorem wpC_mono {t : Sem α} {Q Q' : α → Shared → Prop} (h : wpC M A t Q s) (hQ : ∀ a s, Q a s → Q' a s) : wpC M A t Q' s :=
 fun Γ p hΓ h1 h2 => Sem.wp_mono M Γ t (fun a _ s => hQ a s) (fun e _ s x => x) p s (h Γ p hΓ h1 h2)
theorem wpC_bind {m : Sem α} {f : α → Sem β} {Q : β → Shared → Prop} (h : wpC M A m (fun a s' => wpC M A (f a) Q s') s) : wpC M A (m >>= f) Q s := fun Γ p hΓ h1 h2 => by
 rw [Sem.wp_bind']
 exact Sem.wp_mono M Γ m (fun a p' s' h' => h' Γ p' hΓ h1 h2) (fun _ _ _ h' => h') p s (h Γ p hΓ h1 h2)
theorem wpC_part {m : Sem α} {f : α → Sem β} {Q : β → Shared → Prop} (h : wpAny M A m (fun a s' => wpC M A (f a) Q s') (fun _ _ => False) s) : wpC M A (m >>= f) Q s := wpC_bind (wpC_of h)
theorem wpC_onRaise {m : Sem α} {k : Value → Sem Unit} {Q : α → Shared → Prop} (h : wpC M A m Q s) : wpC M A (m.onRaise k) Q s := fun Γ p hΓ h1 h2 => by
 rw [Sem.wp_onRaise]
 exact Sem.wp_mono M Γ m (fun _ _ _ h' => h') (fun e p' s' h' => h'.elim) p s (h Γ p hΓ h1 h2)
theorem wpC_holding {vs : List Value} {m : Sem α} {Q : α → Shared → Prop} (h : wpC M A m Q s) : wpC M A (holding vs m) Q s := fun Γ p hΓ h1 h2 => by rw [Sem.wp_holding]; exact h Γ p hΓ h1 h2
theorem wpC_keep {vs : List Value} {m : Sem α} {Q : α → Shared → Prop} (h : wpC M A m Q s) : wpC M A (m.keep vs) Q s := fun Γ p hΓ h1 h2 => by rw [Sem.wp_keep]; exact h Γ p hΓ h1 h2
theorem wpC_eq {t t' : Sem α} {Q : α → Shared → Prop} (e : t = t') (h : wpC M A t' Q s) : wpC M A t Q s := e ▸ h
theorem wpC_run {c : Code} {Q : Flow → Shared → Prop} (hc : codeC M A c Q s) : wpC M A (run c none) Q s := fun Γ p hΓ h1 h2 => by
 rw [Sem.wp_run]
 refine wpCode_mono (fun r s' z => ?_) (hc (Γ.enter c none p) p rfl (hΓ.enter c none p (by intro x; cases x)) (fun x hx => ?_))
 ·cases r with
  | ok f => exact z
  | error e => exact z
 ·rcases mem_cons.mp hx with rfl | hx
  ·exact h1
  ·exact h2 x hx
theorem wpC_call {f : Value} {pos : List Value} {Q : Value → Shared → Prop} (hc : codeC M A (.call f ⟨pos, []⟩) (fun fl s' => match fl with | .ret v => Q v s' | _ => False) s) : wpC M A (call f pos) Q s := fun Γ p hΓ h1 h2 => by
 rw [Sem.wp_cmd_call]
 refine wpCode_mono (fun r s' z => ?_) (hc (Γ.enter _ none p) p rfl (hΓ.enter _ none p (by intro x; cases x)) (fun x hx => ?_))
 ·rcases r with e | (v | _ | _ | _) <;> exact z
 ·rcases mem_cons.mp hx with rfl | hx
  ·exact h1
  ·exact h2 x hx
theorem codeC_of_tree {c : Code} {R : Flow → Shared → Prop} (hd : decB c = false) (h : wpC M (A.under c) (M.den c) (fun fin s' => match fin with | .done f => R f s' | .again c' => c'.quiet = true ∧ codeC M A c' R s') s) : codeC M A c R s := fun Γ p hc hΓ h2 => by
 rw [wpCode_iff_wp, hc]
 refine Sem.wp_mono M Γ _ (fun fin p' s' h' => ?_) (fun _ _ _ h' => h'.elim) p s (h Γ p (hc ▸ hΓ.in) (by rw [hc]; exact hd) h2)
 cases fin with
 | done f => exact h'
 | again c' => exact ⟨h'.1, h'.2 (Γ.goto c') p' rfl (hΓ.goto c') h2⟩
theorem codeC_mono {c : Code} {R R' : Flow → Shared → Prop} (h : codeC M A c R s) (hR : ∀ f s, R f s → R' f s) : codeC M A c R' s := fun Γ p e hΓ h2 => wpCode_mono (fun r s' z => by
 cases r with
 | ok f => exact hR f s' z
 | error e => exact z) (h Γ p e hΓ h2)
theorem codeC_loop {c : Code} {R : Flow → Shared → Prop} (hd : decB c = false) (hq : c.quiet = true) (I : Nat → Shared → Prop)
  (turn : ∀ n s, I n s → wpC M (A.under c) (M.den c) (fun fin s' => match fin with
    | .done f => R f s'
    | .again c' => (c' = c ∧ ∃ m, m < n ∧ I m s') ∨ (c'.quiet = true ∧ codeC M A c' R s')) s)
  (n : Nat) (h : I n s) : codeC M A c R s := by
 induction n using Nat.strongRecOn generalizing s with
 | ind n ih =>
  refine codeC_of_tree hd (wpC_mono (turn n s h) (fun fin s' hf => ?_))
  cases fin with
  | done f => exact hf
  | again c' =>
   rcases hf with ⟨rfl, m, hm, hI⟩ | hf
   ·exact ⟨hq, ih m hm hI⟩
   ·exact hf
end
section
theorem codeC_call_function {a : Addr} {args : Args} {o : Obj} {fd : FuncData} {body : List Stmt} {R : Flow → Shared → Prop} (hroom : A.depth < recursionLimit) (ho : s.heap.get? a = some o)
  (hd' : o.data = .func fd) (hco : fd.scope.isCoroutine = false) (hgen : fd.scope.isGenerator = false) (hbody : fd.body = .stmts body) (hcd : s.heap.CodeRec fd.code fd.qualname)
  (h : wpAny (model prog w) A.in1 (bindArgs fd args) (fun binds s₁ =>
   wpAny (model prog w) A.in1 (newFunctionEnv fd.scope fd.globals fd.closure binds (fd.qualname ++ ".<locals>.") (some a) fd.code none fd.builtins)
    (fun env s₂ => s₂.heap.NoLimit ∧ codeC (model prog w) A (.func body env) R s₂) (fun _ _ => False) s₁) (fun _ _ => False) s) :
  codeC (model prog w) A (.call (.ref a) args) R s := by
 refine codeC_of_tree rfl (wpC_of ?_)
 show wpAny _ A.in1 (load a >>= _) _ _ s
 refine wpAny_bind (wpAny_load ho ?_)
 obtain ⟨c, oc, vs, tq, hc, hoc, hdc, hq⟩ := hcd
 cases o
 cases hd'
 show wpAny _ A.in1 (callFunction a fd args) _ _ s
 unfold callFunction
 rw [hc, hgen, hco, hbody]
 rw [hc] at h
 refine wpAny_bind (m := field (.ref c) 1) (wpAny_field hoc hdc hq (wpAny_bind (wpAny_pure ?_)))
 exact wpAny_bind (wpAny_mono h (fun binds s₁ h₁ => wpAny_bind (wpAny_mono h₁ (fun env s₂ h₂ => wpAny_bind (wpAny_enterFrame h₂.1 hroom
  (wpAny_pure (And.intro rfl h₂.2)))) fun _ _ h' => h')) fun _ _ h' => h')
theorem codeC_func {body : List Stmt} {R : Flow → Shared → Prop} (h : wpC (model prog w) (A.deeper env) (execs body env) (fun f s' => R (.ret (match f with | .ret v => v | _ => .none)) s') s) : codeC (model prog w) A (.func body env) R s := by
 refine codeC_of_tree rfl ?_
 show wpC _ (A.deeper env) (do point; match ← (execs body env).onRaise (leaving env) with | .ret v => ret v | _ => ret .none) _ s
 refine wpC_part (wpAny_point (wpC_bind (wpC_onRaise (wpC_mono h (fun f s' h' => ?_)))))
 cases f <;> exact wpC_pure h'
theorem codeC_forLoop {R : Flow → Shared → Prop} {target it body orelse} (I : Nat → Shared → Prop)
  (turn : ∀ n s, I n s → wpAny (model prog w) A (pyNext it) (fun r s₁ => match r with
   | none => wpAny (model prog w) A (execs orelse env) (fun f s₃ => R f s₃) (fun _ _ => False) s₁
   | some v => wpAny (model prog w) A (letOwnedTupleGo target it v) (fun _ s₁' =>
     wpAny (model prog w) A (assign target env v) (fun _ s₂ => wpC (model prog w) A (execs body env) (fun f s₃ => match f with
      | .next | .cont => ∃ m, m < n ∧ I m s₃
      | .brk => R .next s₃
      | .ret v => R (.ret v) s₃) s₂) (fun _ _ => False) s₁') (fun _ _ => False) s₁) (fun _ _ => False) s)
  (n : Nat) (h : I n s) : codeC (model prog w) A (.forLoop target it body orelse env) R s := by
 refine codeC_loop rfl rfl I (fun n s hI => ?_) n h
 show wpC _ A ((forTurn target it body orelse env).onRaise (fun x => do noteFrame x env; theTreesLotGoes x)) _ s
 refine wpC_onRaise ?_
 unfold forTurn
 refine wpC_part (wpAny_standAt (wpC_bind (wpC_onRaise (wpC_mono (wpC_of (turn n s hI)) (fun r s₁ h₁ => ?_)))))
 cases r with
 | none =>
  refine wpC_pure (.inr ⟨rfl, codeC_of (codeAny_block (wpAny_mono h₁ (fun _ _ z => z) fun _ _ z => z.elim))⟩)
 | some v =>
  refine wpC_part (wpAny_mono h₁ (fun _ s₁' h₁' => ?_) fun _ _ h' => h')
  refine wpC_part (wpAny_mono h₁' (fun _ s₂ h₂ => wpC_bind (wpC_mono h₂ (fun f s₃ h₃ => ?_))) fun _ _ h' => h')
  cases f with
  | next => exact wpC_pure (.inl ⟨rfl, h₃⟩)
  | cont => exact wpC_pure (.inl ⟨rfl, h₃⟩)
  | brk => exact wpC_pure h₃
  | ret v => exact wpC_pure h₃
theorem wpC_For {target iter body orelse pos} {Q : Flow → Shared → Prop}
  (h : wpAny (model prog w) A (eval iter env) (fun x s₁ => wpAny (model prog w) A (pyIter x) (fun it s₂ => codeC (model prog w) A (.forLoop target it body orelse env) Q s₂) (fun _ _ => False) s₁) (fun _ _ => False) s)
  (hs : ∀ x, foldedSetIterable iter env x = pure x := by intro _; rfl) : wpC (model prog w) A (exec (.For target iter body orelse pos) env) Q s := by
 rw [exec_For]
 exact wpC_part (wpAny_standAt (wpC_part (wpAny_mono h (fun x s₁ h₁ => wpC_part (wpAny_of_eq (hs x) (wpC_part (wpAny_standAt (wpC_part (wpAny_holding
  (wpAny_mono h₁ (fun it s₂ h₂ => wpC_onRaise (wpC_run h₂)) fun _ _ z => z))))))) fun _ _ z => z)))
theorem wpC_If {test body orelse pos} {Q : Flow → Shared → Prop} (h : wpC (model prog w) A (isTrue test env (eval test env)) (fun b s₂ => if b then wpC (model prog w) A (execs body env) Q s₂ else wpC (model prog w) A (execs orelse env) Q s₂) s) :
  wpC (model prog w) A (exec (.If test body orelse pos) env) Q s := by
 rw [exec_If]
 refine wpC_part (wpAny_standAt (wpC_bind (wpC_mono h fun b s₂ h₂ => ?_)))
 cases b <;> exact h₂
theorem wpC_execs_cons {st : Stmt} {rest : List Stmt} {Q : Flow → Shared → Prop} (h : wpC (model prog w) A (exec st env) (fun f s' => match f with | .next => wpC (model prog w) A (execs rest env) Q s' | f => Q f s') s) : wpC (model prog w) A (execs (st :: rest) env) Q s := by
 rw [execs_cons]
 refine wpC_bind (wpC_mono h fun f s' h' => ?_)
 cases f <;> first | exact h' | exact wpC_pure h'
theorem wpC_ite {α : Type} {M : Model} {Q : α → Shared → Prop} {c : Prop} {d : Decidable c} {a b : Sem α} (ha : wpC M A a Q s) (hb : wpC M A b Q s) : wpC M A (if c then a else b) Q s :=
 if h : c then (if_pos h).symm ▸ ha else (if_neg h).symm ▸ hb
theorem wpC_callWith {P : Heap → Prop} {f : Value} {first : List Value} {pos : Pos} {args : List (Bool × Sem Value)} {Q : Value → Shared → Prop} (hplain : args.any (·.1) = false)
  (hk : ∀ h, P h → ∃ k, (k = Keeper.frame ∨ k = Keeper.machine ∨ k = Keeper.boundFrame) ∧ Looks (model prog w) h (keeperOf f) k)
  (h : wpC (model prog w) A (evalArgs f true args []) (fun a s₁ => P s₁.heap ∧ a.kw = [] ∧ wpC (model prog w) A (call f (first ++ a.pos)) Q s₁) s) : wpC (model prog w) A (callWith pos f first args []) Q s := by
 unfold callWith
 refine wpC_bind (wpC_holding (wpC_mono h (fun a s₁ h₁ => wpC_part (wpAny_standAt ?_))))
 have h3 := h₁.2.2
 obtain ⟨k, hk', L⟩ := hk _ h₁.1
 rw [hplain, h₁.2.1]
 refine wpC_part (L.here ?_)
 have tail : ∀ {t : Sem Value}, wpC (model prog w) A t Q s₁ → wpC (model prog w) A (t >>= fun r => holding [r] point >>= fun _ => pure r) Q s₁ :=
  fun ht => wpC_bind (wpC_mono ht (fun r s₂ hr => wpC_part (wpAny_holding (wpAny_point (wpC_pure hr)))))
 rcases hk' with rfl | rfl | rfl
 ·exact wpC_ite (tail h3) (tail (wpC_keep h3))
 ·exact tail h3
 ·exact wpC_ite (tail h3) (tail (wpC_keep h3))
end
end
section
noncomputable def NoX : Str → Prop := fun _ => False
noncomputable def WC (G : Gd) (cx : Cx) (A : Around) (ex : List (Addr × Obj)) {α : Type} (t : Sem α) (Q : α → PH → List Addr → DS → Prop) (g : PH) (ad : List Addr) (st : DS) : Prop :=
 ∀ (s : Shared) (Q' : α → Shared → Prop), Rel G cx ex g ad st s.heap → s.gens = #[] →
  (∀ a g' ad' st' s', Sub g g' → ad <+: ad' → Q a g' ad' st' → Rel G cx ex g' ad' st' s'.heap → s'.gens = #[] → s'.os = s.os → Q' a s') →
  wpC (model G.prog G.w) A t Q' s
noncomputable def WSC (G : Gd) (cx : Cx) (A : Around) (ex : List (Addr × Obj)) (t : Sem Flow) (N : DS → Prop) (R : V → Option DS → Prop) (g : PH) (ad : List Addr) (st : DS) : Prop :=
 ∀ (s : Shared) (Q' : Flow → Shared → Prop), Rel G cx ex g ad st s.heap → s.gens = #[] →
  (∀ g' ad' st' s', Sub g g' → ad <+: ad' → N st' → Rel G cx ex g' ad' st' s'.heap → s'.gens = #[] → s'.os = s.os → Q' .next s') →
  (∀ v val g' ad' st' s', Sub g g' → ad <+: ad' → VR G g' [] v val → R v (some st') → Rel G cx ex g' ad' st' s'.heap → s'.gens = #[] → s'.os = s.os → Q' (.ret val) s') →
  (∀ v val g' s', Sub cx.g₀ g' → VR G g' [] v val → R v none → Inv cx g' [] s'.heap → s'.gens = #[] → s'.os = s.os → Q' (.ret val) s') →
  wpC (model G.prog G.w) A t Q' s
noncomputable def SoundFC (G : Gd) (r : Nat) (f : Addr) (φ : Ctr) : Prop :=
 ∀ (A : Around) (s : Shared) (fr : List Env) (g : PH) (base : Heap) (b : Option Bor) (vals : List Value) (vs : List V) (Q : V → Option M → Prop) (Q' : Value → Shared → Prop),
  A.frames = some fr → A.handled = none → A.guards = some [] → A.depth + 20 * r ≤ 800 → A.units + 100 * r ≤ 9800 → s.gens = #[] →
  CallAt G fr g base s.heap (borD b) → BorOk G g s.heap b → VRs G g (borA b) vs vals → φ vs (b.map (·.1)) Q NoX →
  (∀ g' l' v val m' s', Sub g g' → OutOk s.heap (borD b) g fr g' l' s'.heap → VR G g' [] v val → (b = none → m' = none) → (∀ m a l, b = some (m, a, l) → ∃ m₁, m' = some m₁ ∧ MR G g' [] m₁ a l') → Q v m' → s'.gens = #[] → s'.os = s.os → Q' val s') →
  codeC (model G.prog G.w) A (.call (.ref f) ⟨vals, []⟩) (fun fl s' => match fl with | .ret v => Q' v s' | _ => False) s
theorem SoundF.clean {f : Addr} {φ : Ctr} (S : SoundF G r f φ) : SoundFC G r f φ := fun A s fr g base b vals vs Q Q' h1 h2 h3 h4 h5 h6 h7 h8 h9 h10 k => by
 refine codeC_of (codeAny_mono (S A s fr g base b vals vs Q NoX Q' (fun _ _ => False) h1 h2 h3 h4 h5 h6 h7 h8 h9 h10 k (fun c e s' C hX => hX.elim)) fun r s' z => ?_)
 rcases r with e | (v | _ | _ | _) <;> exact z
section
variable {α β γ : Type}
theorem WC.of {t : Sem α} {Q : α → PH → List Addr → DS → Prop} (h : W G cx A ex t Q NoX g ad st) : WC G cx A ex t Q g ad st := fun s Q' R hg k => wpC_of (h s Q' _ R hg k fun c e s' hX => hX.elim)
theorem WC.pure {a : α} {Q : α → PH → List Addr → DS → Prop} (h : Q a g ad st) : WC G cx A ex (Pure.pure a) Q g ad st := fun s Q' R hg hq => wpC_pure (hq a g ad st s (Sub.refl g) (prefix_refl _) h R hg rfl)
theorem WC.bind {m : Sem α} {f : α → Sem β} {Q : β → PH → List Addr → DS → Prop} (h : WC G cx A ex m (fun a g' ad' st' => WC G cx A ex (f a) Q g' ad' st') g ad st) : WC G cx A ex (m >>= f) Q g ad st :=
 fun s Q' R hg hq => wpC_bind (h s _ R hg (fun a g' ad' st' s' s1 p1 w R' hg' ho => w s' _ R' hg' (fun b g₂ ad₂ st₂ s₂ s2 p2 q R₂ hg₂ ho₂ => hq b g₂ ad₂ st₂ s₂ (s1.trans s2) (p1.trans p2) q R₂ hg₂ (ho₂.trans ho))))
theorem WC.part {m : Sem α} {f : α → Sem β} {Q : β → PH → List Addr → DS → Prop} (h : W G cx A ex m (fun a g' ad' st' => WC G cx A ex (f a) Q g' ad' st') NoX g ad st) : WC G cx A ex (m >>= f) Q g ad st := WC.bind (WC.of h)
theorem WC.mono {t : Sem α} {Q Q₂ : α → PH → List Addr → DS → Prop} (h : WC G cx A ex t Q g ad st) (hq : ∀ a g' ad' st', Sub g g' → ad <+: ad' → Q a g' ad' st' → Q₂ a g' ad' st') : WC G cx A ex t Q₂ g ad st :=
 fun s Q' R hg k => h s Q' R hg (fun a g' ad' st' s' s1 p1 q R' => k a g' ad' st' s' s1 p1 (hq a g' ad' st' s1 p1 q) R')
theorem WC.eq {t t' : Sem α} {Q : α → PH → List Addr → DS → Prop} (e : t = t') (h : WC G cx A ex t' Q g ad st) : WC G cx A ex t Q g ad st := e ▸ h
theorem WC.holding {vs : List Value} {m : Sem α} {Q : α → PH → List Addr → DS → Prop} (h : WC G cx A ex m Q g ad st) : WC G cx A ex (PySem.holding vs m) Q g ad st := fun s Q' R hg k => wpC_holding (h s Q' R hg k)
theorem WSC.of {t : Sem Flow} (h : WS G cx A ex t N Rt NoX g ad st) : WSC G cx A ex t N Rt g ad st := fun s Q' R hg kn kr kl => wpC_of (h s Q' _ R hg kn kr kl fun c e s' hX => hX.elim)
theorem s_codeFC {f : Addr} {φ : Ctr} {vals : List Value} {Q : V → DS → Prop} (C : CxOk G cx) (O : AOk cx A (r + 1)) (S : SoundFC G r f φ) (rs : VRs G g ad vs vals) (hv : callV φ vs st Q NoX)
  {s : Shared} {Q' : Value → Shared → Prop} (R : Rel G cx ex g ad st s.heap) (hg : s.gens = #[])
  (k : ∀ v val g' st' s', Sub g g' → VR G g' [] v val → Q v st' → Rel G cx ex g' ad st' s'.heap → s'.gens = #[] → s'.os = s.os → Q' val s') {A₁ : Around} (hA : A₁.frames = A.frames ∧ A₁.handled = A.handled ∧ A₁.guards = A.guards ∧ A₁.depth ≤ A.depth + 10 ∧ A₁.units ≤ A.units + 50) :
  codeC (model G.prog G.w) A₁ (.call (.ref f) ⟨vals, []⟩) (fun fl s' => match fl with | .ret v => Q' v s' | _ => False) s := by
 obtain ⟨oL, cs, fp, I, L, MO⟩ := R
 obtain ⟨m₀, hm₀, _⟩ := id L.ns
 obtain ⟨a1, a2, a3, a4, a5⟩ := hA
 have O1 := O.depth
 have O2 := O.units
 unfold callV at hv
 split at hv
 ·rename_i hc
  have I' : Inv cx g ((cx.L, oL) :: ((cs ++ (ex ++ fp.flatten)) ++ [])) s.heap := by rw [append_nil]; exact I
  obtain ⟨base', CA, cb, hb⟩ := callAt C hm₀ I'
  refine S A₁ s _ g base' none vals vs _ Q' (a1.trans O.frames) (a2.trans O.handled) (a3.trans O.guards) (by omega) (by omega) hg CA (fun _ _ _ q => by cases q) (cels_nil hc rs) hv ?_
  intro g' l' v val m' s' S' J rv _ _ q hg' ho
  obtain ⟨sl, I₂⟩ := I'.call C S' J.nilD
  rw [append_nil] at I₂
  exact k v val g' st s' S' rv q ⟨_, cs, fp, I₂, (L.mono S' (prefix_refl _)).slots, MO.mono S'⟩ hg' ho
 ·rename_i j hc
  obtain ⟨m, hm, hv⟩ := oElim_some hv
  obtain ⟨a, l, h1, h2, mr⟩ := MO.at hm
  have P := (flat_at h2 []).1
  have I' : Inv cx g ((cx.L, oL) :: ((cs ++ (ex ++ ((fp.take j).flatten ++ (fp.drop (j + 1)).flatten))) ++ l)) s.heap := I.perm (by
   refine List.Perm.cons _ ?_
   rw [append_assoc, append_assoc]
   exact List.Perm.append_left _ (List.Perm.append_left _ P))
  obtain ⟨base', CA, cb, hb⟩ := callAt C hm₀ I'
  have nd := I'.nd
  rw [map_cons, map_append, nodup_cons] at nd
  refine S A₁ s _ g base' (some (m, a, l)) vals _ _ Q' (a1.trans O.frames) (a2.trans O.handled) (a3.trans O.guards) (by omega) (by omega) hg CA (fun m' a' l' q => ?_) (cels_one h1 hc rs) hv ?_
  ·cases q
   exact ⟨mr.any, fun p hp => I'.cur p (.tail _ (mem_append_right _ hp)), (nodup_append.mp nd.2).2.1⟩
  ·intro g' l' v val m' s' S' J rv _ hm' q hg' ho
   obtain ⟨m₁, e₁, mr'⟩ := hm' m a l rfl
   obtain ⟨sl, I₂⟩ := I'.call C S' J
   have P₂ := (flat_at h2 l').2
   rw [e₁] at q
   refine k v val g' _ s' S' rv q ⟨_, cs, fp.set j l', I₂.perm (by
    refine List.Perm.cons _ ?_
    rw [append_assoc, append_assoc]
    exact List.Perm.append_left _ (List.Perm.append_left _ P₂.symm)), (L.mono S' (prefix_refl _)).slots, ?_⟩ hg' ho
   have MO' := MO.mono S'
   refine ⟨by rw [length_set, length_set]; exact MO.len, by rw [length_set]; exact MO.lad, fun i m₂ a₂ l₂ q1 q2 q3 => ?_⟩
   by_cases q : j = i
   ·subst q
    rw [List.getElem?_set_self (List.getElem?_eq_some_iff.mp hm).1] at q1
    rw [List.getElem?_set_self (List.getElem?_eq_some_iff.mp h2).1] at q3
    rw [h1] at q2
    cases q1; cases q2; cases q3
    exact mr'.any
   ·rw [List.getElem?_set_ne q] at q1 q3
    exact MO'.rel i m₂ a₂ l₂ q1 q2 q3
 ·exact hv.elim
noncomputable abbrev WVC (G : Gd) (cx : Cx) (A : Around) (ex : List (Addr × Obj)) (t : Sem Value) (Q : V → DS → Prop) (g : PH) (ad : List Addr) (st : DS) : Prop :=
 WC G cx A ex t (fun a g' ad' st' => ∃ v, VR G g' ad' v a ∧ Q v st') g ad st
theorem s_callFC {f : Addr} {φ : Ctr} {vals : List Value} {Q : V → DS → Prop} (C : CxOk G cx) (O : AOk cx A (r + 1)) (S : SoundFC G r f φ) (rs : VRs G g ad vs vals) (hv : callV φ vs st Q NoX) :
  WVC G cx A ex (call (.ref f) vals) Q g ad st := fun s Q' R hg k =>
 wpC_call (s_codeFC C O S rs hv R hg (fun v val g' st' s' S' rv q R' hg' ho => k val g' ad st' s' S' (prefix_refl _) ⟨v, rv.lift, q⟩ R' hg' ho) ⟨rfl, rfl, rfl, by omega, by omega⟩)
theorem s_callWithC {f : Value} {first : List Value} {es : List Expr} {pos : Pos} {L : (List V → DS → Prop) → DS → Prop} {P : List V → DS → Prop} {Q : Value → PH → List Addr → DS → Prop} (C : CxOk G cx) (hf : CallOk G f) (hn : noStar es = true)
  (h1 : Sl G cx A ex NoX nc env (spliced (backTo pos (starEach es env))) L) (N : EnvOk G cx ex g ad nc env) (h : L P st)
  (k : ∀ vals vs g' ad' st', Sub g g' → ad <+: ad' → EnvOk G cx ex g' ad' nc env → VRs G g' ad' vs vals → P vs st' → WC G cx A ex (call f (first ++ vals)) Q g' ad' st') :
  WC G cx A ex (callWith pos f first (backTo pos (starEach es env)) []) Q g ad st := fun s Q' R hg hq => by
 refine wpC_callWith (P := G.K.In) (noStar_any hn) (fun h X => hf (model G.prog G.w) h X) (wpC_of (evalArgs_es hn ?_))
 refine h1 P g ad st N h s _ _ R hg (fun vals g' ad' st' s' S p ⟨vs, rs, q⟩ R' hg' ho => ⟨R'.kin C, rfl, ?_⟩) fun c e s' hX => hX.elim
 exact k vals vs g' ad' st' S p (N.mono S p) rs q s' Q' R' hg' (fun b g₂ ad₂ st₂ s₂ S₂ p₂ q R₂ hg₂ ho₂ => hq b g₂ ad₂ st₂ s₂ (S.trans S₂) (p.trans p₂) q R₂ hg₂ (ho₂.trans ho))
noncomputable def SdC (G : Gd) (cx : Cx) (A : Around) (ex : List (Addr × Obj)) (nc : NC) (env : Env) (t : Sem Value) (F : (V → DS → Prop) → DS → Prop) : Prop :=
 ∀ Q g ad st, EnvOk G cx ex g ad nc env → F Q st → WVC G cx A ex t Q g ad st
theorem rc_CallF {x : Str} {np pos : Pos} {f : Addr} {φ : Ctr} {es : List Expr} {L : (List V → DS → Prop) → DS → Prop} (C : CxOk G cx) (O : AOk cx A (r + 1)) (hk : nc.sc.names.lookup x = some .globalImplicit) (hd : (x == ("__debug__" : Str)) = false) (hx : nsIn G.K mainGlobals x = some (some (.ref f))) (hf : keepIn G.K (.ref f) = true) (S : SoundFC G r f φ) (hn : noStar es = true)
  (h1 : Sl G cx A ex NoX nc env (spliced (backTo pos (starEach es env))) L) : SdC G cx A ex nc env (eval (.Call (.Name x np) es [] pos) env) (fun Q st => L (fun vs st => callV φ vs st Q NoX) st) := fun Q g ad st N h s Q' R hg hq => by
 have T := R.top C
 rw [eval_Call_fn (func := .Name x np) (by intro o n p e; cases e)]
 refine wpC_part (Name_function_global (N.kind C) (by rw [← hk, N.sc]; rfl) (loadGlobal_global (env := env) (by rw [N.glob C]; exact T.g) (mg_of (R.kin C) T.g hx) ?_) hd)
 exact s_callWithC C (CallOk.keep hf) hn h1 N h (fun vals vs g' ad' st' S' p N' rs q => s_callFC C O S rs q) s Q' R hg hq
theorem rc_CallM {mt : Str → Str → Option Addr} {o : Expr} {x : Str} {apos pos : Pos} {es : List Expr} {ΓC : Addr → Ctr} {F₁ : (V → DS → Prop) → DS → Prop} {L : (List V → DS → Prop) → DS → Prop} (hmt : ∀ c x f, mt c x = some f → methodOk G.K c x = some f) (C : CxOk G cx) (O : AOk cx A (r + 1)) (S : ∀ f, SoundFC G r f (ΓC f)) (hf : methForm o apos pos es = true) (h0 : Sd G cx A ex NoX nc env (eval o env) F₁)
  (h1 : Sl G cx A ex NoX nc env (spliced (backTo pos (starEach es env))) L) :
  SdC G cx A ex nc env (eval (.Call (.Attribute o x apos) es [] pos) env) (fun Q st => F₁ (fun v st => methT mt ΓC NoX x v L Q st) st) := fun Q g ad st N h => by
 obtain ⟨pl, e⟩ := eval_meth (name := x) (env := env) hf
 have hn := methForm_star hf
 refine WC.eq e (WC.part (h0.go N h fun a v g' ad' st' S' p N' ra h => oE_e h fun c hc h => oE_e h fun f hm hL => WC.part (W.standAt ?_)))
 intro s Q' R hg hq
 refine wpC_part (wpAny_holding (s_method C ra hc (hmt _ _ _ hm) R ?_))
 refine s_callWithC C (CallOk.keep (keepIn_method (hmt _ _ _ hm))) hn h1 N' hL (fun vals vs g₂ ad₂ st₂ S₂ p₂ N₂ rs q => ?_) s Q' R hg hq
 exact s_callFC C O (S f) (.cons (ra.mono S₂ p₂) rs) q
theorem wsC_nil (h : N st) : WSC G cx A ex (execs [] cx.envF) N Rt g ad st := .of (ws_nil h)
theorem wsC_cons {t : Stmt} {ts : List Stmt} {P : DS → Prop} (h1 : WSC G cx A ex (exec t cx.envF) P Rt g ad st) (h2 : ∀ g' ad' st', P st' → WSC G cx A ex (execs ts cx.envF) N Rt g' ad' st') : WSC G cx A ex (execs (t :: ts) cx.envF) N Rt g ad st :=
 fun s Q' R hg kn kr kl => wpC_execs_cons (h1 s _ R hg
  (fun g' ad' st' s' S p q R' hg' ho => h2 g' ad' st' q s' Q' R' hg' (fun g₂ ad₂ st₂ s₂ S₂ p₂ q R₂ hg₂ ho₂ => kn g₂ ad₂ st₂ s₂ (S.trans S₂) (p.trans p₂) q R₂ hg₂ (ho₂.trans ho))
   (fun v val g₂ ad₂ st₂ s₂ S₂ p₂ rv q R₂ hg₂ ho₂ => kr v val g₂ ad₂ st₂ s₂ (S.trans S₂) (p.trans p₂) rv q R₂ hg₂ (ho₂.trans ho))
   (fun v val g₂ s₂ S₂ rv q I hg₂ ho₂ => kl v val g₂ s₂ S₂ rv q I hg₂ (ho₂.trans ho)))
  (fun v val g' ad' st' s' S p rv q R' hg' ho => kr v val g' ad' st' s' S p rv q R' hg' ho)
  (fun v val g' s' S rv q I hg' ho => kl v val g' s' S rv q I hg' ho))
theorem wsC_Expr {e : Expr} {pos : Pos} {F : (V → DS → Prop) → DS → Prop} (C : CxOk G cx) (hs : isComp e = false) (h1 : SdC G cx A ex ⟨cx.envF.scope, none⟩ cx.envF (eval e cx.envF) F) (h : F (fun v st => noneK v (N st)) st) :
  WSC G cx A ex (exec (.Expr e pos) cx.envF) N Rt g ad st := fun s Q' R hg kn kr kl => by
 have hi : interactive cx.envF = false := by unfold interactive; rw [C.kind]; rfl
 rw [exec_Expr cx.envF e pos hi (swaps_plain hs _ _ _)]
 refine wpC_part (wpAny_standAt (wpC_bind (h1 _ g ad st .fn h s _ R hg fun a g' ad' st' s' S p z R' hg' ho => Exists.elim z fun v z => ?_)))
 obtain ⟨hv, q⟩ := noneK_elim z.2
 subst hv
 have ea : a = .none := z.1.inv
 subst ea
 rw [dropValue_plain (by intro a; simp)]
 exact wpC_pure (kn g' ad' st' s' S p q R' hg' ho)
theorem wsC_If {test : Expr} {body orelse : List Stmt} {pos : Pos} {P : Bool → DS → Prop} (h1 : WC G cx A ex (isTrue test cx.envF (eval test cx.envF)) (fun b _ _ st' => P b st') g ad st)
  (h2 : ∀ g' ad' st', P true st' → WSC G cx A ex (execs body cx.envF) N Rt g' ad' st') (h3 : ∀ g' ad' st', P false st' → WSC G cx A ex (execs orelse cx.envF) N Rt g' ad' st') : WSC G cx A ex (exec (.If test body orelse pos) cx.envF) N Rt g ad st :=
 fun s Q' R hg kn kr kl => wpC_If (h1 s _ R hg (fun b g' ad' st' s' S p q R' hg' ho => by
  have go : ∀ ts, WSC G cx A ex (execs ts cx.envF) N Rt g' ad' st' → wpC (model G.prog G.w) A (execs ts cx.envF) Q' s' := fun ts w => w s' Q' R' hg'
   (fun g₂ ad₂ st₂ s₂ S₂ p₂ q R₂ hg₂ ho₂ => kn g₂ ad₂ st₂ s₂ (S.trans S₂) (p.trans p₂) q R₂ hg₂ (ho₂.trans ho))
   (fun v val g₂ ad₂ st₂ s₂ S₂ p₂ rv q R₂ hg₂ ho₂ => kr v val g₂ ad₂ st₂ s₂ (S.trans S₂) (p.trans p₂) rv q R₂ hg₂ (ho₂.trans ho))
   (fun v val g₂ s₂ S₂ rv q I hg₂ ho₂ => kl v val g₂ s₂ S₂ rv q I hg₂ (ho₂.trans ho))
  cases b with
  | true => exact go _ (h2 g' ad' st' q)
  | false => exact go _ (h3 g' ad' st' q)))
end
end
section
section
variable {α β γ : Type}
variable {FB : (DS → Prop) → (V → Option DS → Prop) → DS → Prop} {Fi : (List (List (Str × V)) → DS → Prop) → DS → Prop}
theorem for_loopC {x : Str} {px : Pos} {body : List Stmt} {I : Addr} {bs : List (List (Str × V))} {fp wr : List Addr} {P Md : Nat → Value → Heap → Prop} {St : Nat → Heap → Prop} {R : Flow → Shared → Prop}
  (C : CxOk G cx) (O : AOk cx A r) (F : Feed G A g₁ (.Name x px) I bs.length (fun i => bs[i]?.getD []) fp wr P Md St) (hx : storable cx.envF.scope x = true)
  (hbody : ∀ ex' g' ad' st' N Rt, FB N Rt st' → WSC G cx A ex' (execs body cx.envF) N Rt g' ad' st')
  (hN : ∀ g' ad' st' s', Sub g₁ g' → ad₁ <+: ad' → N st' → Rel G cx ex g' ad' st' s'.heap → s'.gens = #[] → s'.os = s.os → R .next s')
  (hRs : ∀ v val g' ad' st' s', Sub g₁ g' → ad₁ <+: ad' → VR G g' [] v val → Rt v (some st') → Rel G cx ex g' ad' st' s'.heap → s'.gens = #[] → s'.os = s.os → R (.ret val) s')
  (hRn : ∀ v val g' s', Sub cx.g₀ g' → VR G g' [] v val → Rt v none → Inv cx g' [] s'.heap → s'.gens = #[] → s'.os = s.os → R (.ret val) s')
  {own : List (Addr × Obj)} (how : own.map (·.1) = wr) (R0 : Rel G cx (own ++ ex) g₁ ad₁ st s.heap) (hst : St 0 s.heap) (hg : s.gens = #[]) (hF : loopB FB bs N Rt st) :
  codeC (model G.prog G.w) A (.forLoop (.Name x px) (.ref I) body [] cx.envF) R s := by
 refine codeC_forLoop (ForI G cx ex g₁ ad₁ bs.length wr St (fun i st' => loopB FB (bs.drop i) N Rt st') s.os) (fun k s₀ J => ?_) bs.length
  (.mk 0 g₁ ad₁ st own (Nat.zero_le _) rfl (Sub.refl _) (prefix_refl _) how hst R0 hF hg rfl)
 cases J with | mk i g' ad' st' own hi hk S p how hst R₀ hFi hg₀ ho₀ =>
 subst hk
 by_cases hlt : i < bs.length
 ·have hdrop : bs.drop i = bs[i] :: bs.drop (i + 1) := List.drop_eq_getElem_cons hlt
  rw [hdrop] at hFi
  have hbi : (bs[i]?).getD [] = bs[i] := by rw [List.getElem?_eq_getElem hlt]; rfl
  refine F.K.item i s₀ _ _ hlt hst fun v h₁ tk₁ hMd hk₁ => ?_
  refine F.K.go i v ⟨h₁, s₀.gens, s₀.drawn, tk₁, s₀.os⟩ _ _ hMd fun h₂ hP hSt' hk₂ => ?_
  obtain ⟨own₂, how₂, hown₂⟩ := live_list (F.live (i + 1) h₂ hSt')
  have hk₁₂ : ∀ b o, b ∉ own.map (·.1) → s₀.heap.get? b = some o → h₂.get? b = some o := fun b o hb e => hk₂ b o (how ▸ hb) (hk₁ b o (how ▸ hb) e)
  have R₂ : Rel G cx (own₂ ++ ex) g' ad' st' h₂ := R₀.swap C (by rw [how, how₂]; exact List.Sublist.refl _) hk₁₂ hown₂
  obtain ⟨y, hby, ry⟩ := F.nm i v h₂ x px hlt hP rfl
  rw [hbi] at hby
  rw [hby] at hFi
  have ry' : VR G g' ad' y v := ry.mono S List.nil_prefix
  refine wpAny_assign_Name (s_store C ry' (storable_or hx) R₂ fun h₃ tk₃ R₃ hk₃ => ?_)
  refine hbody (own₂ ++ ex) g' ad' (st'.set x y) _ _ hFi ⟨h₃, s₀.gens, s₀.drawn, tk₃, s₀.os⟩ _ R₃ hg₀ (fun g₄ ad₄ st₄ s₄ S₄ p₄ hN₄ R₄ hg₄ ho₄ => ?_) (fun v val g₄ ad₄ st₄ s₄ S₄ p₄ rv hr R₄ hg₄ ho₄ => ?_) (fun v val g₄ s₄ S₄ rv hr I₄ hg₄ ho₄ => ?_)
  ·exact ⟨bs.length - (i + 1), Nat.sub_succ_lt_self _ _ hlt, .mk (i + 1) g₄ ad₄ st₄ own₂ hlt rfl (S.trans S₄) (p.trans p₄) how₂ (feed_frame F hSt' how₂ hown₂ R₂ S S₄ R₄) R₄ hN₄ hg₄ (ho₄.trans ho₀)⟩
  ·exact hRs v val g₄ ad₄ st₄ s₄ (S.trans S₄) (p.trans p₄) rv hr (R₄.drop (List.sublist_append_right _ _)) hg₄ (ho₄.trans ho₀)
  ·exact hRn v val g₄ s₄ S₄ rv hr I₄ hg₄ (ho₄.trans ho₀)
 ·have hin : i = bs.length := Nat.le_antisymm hi (Nat.not_lt.mp hlt)
  subst hin
  refine F.K.done s₀ _ _ hst fun h₁ tk₁ hk₁ => wpAny_execs_nil ?_
  have R₁ : Rel G cx ([] ++ ex) g' ad' st' h₁ := R₀.swap C (nil_sublist _) (fun b o hb e => hk₁ b o (how ▸ hb) e) (fun p hp => by cases hp)
  rw [List.drop_length] at hFi
  exact hN g' ad' st' _ S p hFi R₁ hg₀ ho₀
theorem wsC_For {x : Str} {px pos : Pos} {iter : Expr} {body : List Stmt} (C : CxOk G cx) (O : AOk cx A r) (hx : storable cx.envF.scope x = true) (hs : isSet iter = false) (h1 : Sit G cx A ex NoX (.Name x px) iter Fi)
  (hbody : ∀ ex' g' ad' st' N Rt, FB N Rt st' → WSC G cx A ex' (execs body cx.envF) N Rt g' ad' st')
  (h : Fi (fun bs st => loopW FB bs N Rt st) st) : WSC G cx A ex (exec (.For (.Name x px) iter body [] pos) cx.envF) N Rt g ad st := fun s Q' R hg kn kr kl => by
 refine wpC_For (h1 _ g ad st s _ _ h R hg (fun bs it g' ad' st' s' S' p hB hbn hfed hg' ho' => ?_) fun c e s' hX => hX.elim) (folded_plain hs _)
 obtain ⟨I, fp, wr, P, Md, St, own, rfl, F, how, R', hst⟩ := hfed
 exact for_loopC C O F hx hbody (fun g₂ ad₂ st₂ s₂ S₂ p₂ n R₂ hg₂ ho₂ => kn g₂ ad₂ st₂ s₂ (S'.trans S₂) (p.trans p₂) n R₂ hg₂ (ho₂.trans ho'))
  (fun v val g₂ ad₂ st₂ s₂ S₂ p₂ rv n R₂ hg₂ ho₂ => kr v val g₂ ad₂ st₂ s₂ (S'.trans S₂) (p.trans p₂) rv n R₂ hg₂ (ho₂.trans ho'))
  (fun v val g₂ s₂ S₂ rv n I₂ hg₂ ho₂ => kl v val g₂ s₂ S₂ rv n I₂ hg₂ (ho₂.trans ho')) how R' hst hg' hB.h
end
end
section
theorem fn_soundC {f : Addr} {fo : Obj} {name qual : Str} {params : Arguments} {body : List Stmt} {scope : Scope} {dV kV doc pm cdv ct : Value} {an : Option Addr} {φ : Ctr}
  (ho : G.K.lookup f = some fo) (hd : fo.data = .func (fnX name qual params body scope [] dV kV doc pm an cdv ct)) (hcd : codeIn G.K cdv qual = true)
  (hk : scope.kind = .function) (hco : scope.isCoroutine = false) (hgen : scope.isGenerator = false) (hnd : ((cellsFrom 0 scope.names []).map (·.1)).Nodup)
  (bindV : List V → List (Str × V) → Prop)
  (hbind : ∀ (g : PH) (ad : List Addr) (vs : List V) (vals : List Value) (s : Shared) (Q : V → Option M → Prop) (m : Option M), (∀ a o, G.b₀.get? a = some o → g a = some o) → G.K.In s.heap → VRs G g ad vs vals → φ vs m Q NoX →
   ∃ ls bs, bindV vs ls ∧ Pairs G g ad ls bs ∧ BindsTo s (fnX name qual params body scope [] dV kV doc pm an cdv ct) ⟨vals, []⟩ bs ∧ (bs.map (·.1)).Nodup ∧
    ∀ n, ∀ x ∈ bs, scope.names.lookup x.1 = some .local ∨ (scope.names.lookup x.1 = some .cell ∧ ((cellsFrom n scope.names []).lookup x.1).isSome = true))
  (hbody : ∀ (cx : Cx) (A : Around) (g : PH) (b : Option Bor) (vs : List V) (ls : List (Str × V)) (Q : V → Option M → Prop), CxOk G cx → AOk cx A r → cx.envF.scope = scope → cx.D = borD b → bindV vs ls → φ vs (b.map (·.1)) Q NoX →
   WSC G cx A [] (execs body cx.envF) (fun st => Q .none (mOf b.isSome st)) (fun v o => match o with | some st => Q v (mOf b.isSome st) | none => b = none ∧ Q v none) g (borA b) ⟨ls, (b.map (·.1)).toList⟩) : SoundFC G (r + 1) f φ := by
 intro A s fr g base b vals vs Q Q' hA hh hgd hdep hun hg CA BO rs hφ kq
 have hb0 : G.b₀.StaysIn s.heap := fun a o e => CA.stays _ _ (CA.b₀ _ _ e)
 have KI : G.K.In s.heap := G.X.keeps hb0
 obtain ⟨ls, bs, hbv, PR, hB, hbn, hkind⟩ := hbind g (borA b) vs vals s Q (b.map (·.1)) CA.gb KI rs hφ
 refine codeC_call_function (by show A.depth < 1000; omega) (KI _ _ ho) hd hco hgen rfl (codeRec_of KI hcd) (hB _ _ _ _ ?_)
 refine wpAny_newFunctionEnv_cells hk (hkind _) fun env he s' x => ?_
 obtain ⟨h₁, tk, rfl, hk₁⟩ := x.done
 refine ⟨(G.T.keeps hb0).nolimit.keeps hk₁, codeC_func ?_⟩
 have es : env.scope = scope := by rw [he]; rfl
 subst es
 obtain ⟨C, O, R0⟩ := fn_core (r := r) hk hco hgen hnd (by rw [he]; rfl) (by rw [he]; rfl) (by rw [he]; rfl) (by rw [he]; rfl) (by rw [he]; rfl) hkind x hk₁ hA hh hgd hdep hun CA BO PR hbn
 refine hbody _ (A.deeper env) g b vs ls Q C O rfl rfl hbv hφ ⟨h₁, s.gens, s.drawn, tk, s.os⟩ _ R0 hg ?_ ?_ ?_
 ·intro g' ad' st' s' S p q R' hg' ho'
  obtain ⟨l', J, e1, e2⟩ := fn_out rfl p R'
  exact kq g' l' .none .none _ s' S J .none e1 e2 q hg' ho'
 ·intro v val g' ad' st' s' S p rv q R' hg' ho'
  obtain ⟨l', J, e1, e2⟩ := fn_out rfl p R'
  exact kq g' l' v val _ s' S J rv e1 e2 q hg' ho'
 ·intro v val g' s' S rv q I' hg' ho'
  exact kq g' [] v val none s' S ⟨_, rfl, rfl, rfl, rfl, I'⟩ rv (fun _ => rfl) (fun m a l e => nomatch q.1.symm.trans e) q.2 hg' ho'
end
theorem ba_slot : Slot "bytearray" "extend" "bytearray.extend" :=
 .of (owner := "bytearray") (n := "extend") (by rw [typeLookup_type, builtinLookup_eq_fast]; kernel_rfl) (by decide +kernel) (by decide +kernel) (by decide +kernel)
  (by first | exact .inl (by decide +kernel) | exact .inr (by decide +kernel)) (by rw [isSubtype_type]; kernel_rfl)
theorem ba_entry : entryFor table "bytearray.extend" = some Builtin.«bytearray.extend» := entryFor_of_tree (by kernel_rfl)
theorem ba_args (a b : Value) : argsOk "bytearray.extend" ⟨[a, b], []⟩ := by unfold argsOk; kernel_rfl
theorem ba_dec (args : Args) : decB (.builtin "bytearray.extend" args) = false := by
 show Builtin.Bytes.decodersThatHold.contains "bytearray.extend" = false
 decide +kernel
theorem by_buffer : typeLookup (.type "bytes") "__buffer__" = pure (some (.builtin "bytes.__buffer__")) := by rw [typeLookup_type, builtinLookup_eq_fast]; kernel_rfl
section
theorem codeC_call_builtin {id : String} {args : Args} {b : Builtin} {R : Flow → Shared → Prop} (hq : plainId id = true) (hb : entryFor table id = some b) (hd : decB (.builtin id args) = false)
  (h : wpAny (model prog w) A.in1 (checkBuiltinCall id args) (fun _ s₁ => wpC (model prog w) A.in1 (b args) (fun fin s' => match fin with | .done f => R f s' | .again c' => c'.quiet = true ∧ codeC (model prog w) A c' R s') s₁) (fun _ _ => False) s) :
  codeC (model prog w) A (.call (.builtin id) args) R s := by
 refine codeC_of_tree rfl ?_
 show wpC _ A.in1 (do checkBuiltinCall id args; again (.builtin id args)) _ s
 refine wpC_part (wpAny_mono h (fun _ s₁ h₁ => wpC_pure (And.intro (plainId_quiet hq args) (codeC_of_tree hd ?_))) fun _ _ z => z)
 show wpC _ _ (match entryFor table id with | some b => b args | none => unsupported ((withoutEnding? id "#data").getD id)) _ s₁
 rw [hb, Around.under_plainId hq args]; exact h₁
theorem isG (id : String) (h : guardIds.contains id = false) (args : Args) : True := trivial
theorem any_none {α : Type} {f : α → Bool} : ∀ {l : List α}, (∀ x ∈ l, f x = false) → l.any f = false
 | [], _ => rfl
 | a :: l, h => by rw [List.any_cons, h a (.head _), any_none fun x hx => h x (.tail _ hx)]; rfl
theorem guardsOf_nil : ∀ {l : List (Code × Pos)}, guardsOf l = [] → ∀ x ∈ l, x.1.isGuard = false := fun {l} h x hx => by
 cases q : x.1.isGuard with
 | false => rfl
 | true =>
  have : x.1 ∈ guardsOf l := List.mem_filter.mpr ⟨mem_map_of_mem hx, q⟩
  rw [h] at this
  cases this
theorem wpC_exported {self : Value} {Q : Bool → Shared → Prop} (hg : A.guards = some []) (h : Q false s) : wpC (model prog w) A (Builtin.Bytes.exported self) Q s := fun Γ p hΓ h1 h2 => by
 have hG : ∀ x ∈ (Γ.code, p) :: Γ.below, x.1.isGuard = false := guardsOf_nil (by rw [guardsOf_cons]; exact hΓ.2.2.2.1 _ hg)
 have hD : ∀ x ∈ (Γ.code, p) :: Γ.below, decB x.1 = false := fun x hx => by
  rcases mem_cons.mp hx with rfl | hx
  ·exact h1
  ·exact h2 x hx
 unfold Builtin.Bytes.exported
 show Q (((Γ.code, p) :: Γ.below).any _) s
 rw [any_none]
 ·exact h
 ·intro x hx
  obtain ⟨c, q⟩ := x
  have g := hG _ hx
  have d := hD _ hx
  cases c with
  | builtin id args =>
   have ne : ∀ {z}, guardIds.contains z = true → id ≠ z := fun h e => Bool.noConfusion ((show guardIds.contains id = false from g).symm.trans (e ▸ h))
   have n1 : id ≠ "bytearray.__contains__" := ne (by decide +kernel)
   have n2 : id ≠ "bytearray.__mod__" := ne (by decide +kernel)
   have n3 : id ≠ "bytearray.__rmod__" := ne (by decide +kernel)
   have n4 : id ≠ "_struct.pack_into.held" := ne (by decide +kernel)
   have n5 : id ≠ "bytearray.find.held" := ne (by decide +kernel)
   have hd : Builtin.Bytes.decodersThatHold.contains id = false := d
   clear d g hG hD h1 h2 h
   delta Builtin.Bytes.exported.match_1
   refine (dif_neg n1).trans ((dif_neg n2).trans ((dif_neg n3).trans ((dif_neg n4).trans ((dif_neg n5).trans ?_))))
   obtain ⟨as, kw⟩ := args
   rcases as with _ | ⟨v, _ | ⟨u, as⟩⟩
   ·rfl
   ·exact (congrArg (fun z => _ && z) hd).trans (Bool.and_false _)
   ·exact (congrArg (fun z => _ && z) hd).trans (Bool.and_false _)
  | _ => rfl
theorem wpC_ifT {α : Type} {M : Model} {A : Around} {s : Shared} {Q : α → Shared → Prop} {c : Prop} [Decidable c] {a b : Sem α} (hc : c) (h : wpC M A a Q s) : wpC M A (if c then a else b) Q s := by rw [if_pos hc]; exact h
theorem wpC_ifF {α : Type} {M : Model} {A : Around} {s : Shared} {Q : α → Shared → Prop} {c : Prop} [Decidable c] {a b : Sem α} (hc : ¬ c) (h : wpC M A b Q s) : wpC M A (if c then a else b) Q s := by rw [if_neg hc]; exact h
theorem take_eq {b : Array UInt8} {t : Tok} {id : String} : Builtin.Bytes.takeBuffer? id (.bytes b t) 0 = pure (some (b, none)) := by
 unfold Builtin.Bytes.takeBuffer?
 rw [KBy.special_eq KBy.look_buffer, KBy.own_buffer]
 show (Builtin.Bytes.buffer? id (.bytes b t) (full := false) >>= fun x => pure (x.map (·, none))) = _
 rw [KBy.buffer_eq]
 rfl
theorem takeq_eq {b : Array UInt8} {t : Tok} {id : String} : Builtin.Bytes.takeBufferQuiet? id (.bytes b t) 0 = pure (some (b, none)) := by
 unfold Builtin.Bytes.takeBufferQuiet?
 rw [take_eq]
 rfl
noncomputable abbrev baO (b : Array UInt8) : Obj := { cls := .type "bytearray", dict := .none, data := .bytearray b 0, slots := #[] }
theorem wp_payload {y : Addr} {b : Array UInt8} {E : Value → Shared → Prop} {Q : Array UInt8 → Shared → Prop} (hy : s.heap.get? y = some (baO b)) (h : Q b s) : wpAny (model prog w) A (Builtin.Bytes.payload (.ref y)) Q E s := by
 unfold Builtin.Bytes.payload
 refine wpAny_bind (Q := Q) (m := Builtin.Bytes.payload? (.ref y)) ?_
 unfold Builtin.Bytes.payload?
 exact wpAny_bind (wpAny_load hy (wpAny_pure (wpAny_pure h)))
theorem wp_write {y : Addr} {b b' : Array UInt8} {f : Array UInt8 → Array UInt8} {E : Value → Shared → Prop} {Q : Unit → Shared → Prop} (hy : s.heap.get? y = some (baO b)) (hb : f b = b') (hz : b'.size ≤ 16777216)
  (h : ∀ h', Heap.SameBut y s.heap h' → h'.get? y = some (baO b') → Q () { s with heap := h' }) : wpAny (model prog w) A (Builtin.Bytes.write (.ref y) f) Q E s := by
 subst hb
 show wpAny _ _ (updateBytearray y f) _ _ _
 unfold updateBytearray
 refine wpAny_bind (wpAny_load hy ?_)
 show wpAny _ _ (update y (Obj.mapBytearray f) >>= fun _ => lookBehind y) _ _ _
 refine wpAny_bind (wpAny_update hy ?_)
 have e := Heap.get?_update_self (Obj.mapBytearray f) hy rfl
 refine wpAny_lookBehind e ?_ (h _ (Heap.SameBut.update ..) e)
 show (if (f b).size > sizeLine then some "bytearray:memory" else none) = none
 rw [if_neg]
 rw [PySem.sizeLine_eq]
 omega
theorem wpC_free {y : Addr} {b : Array UInt8} {Q : Unit → Shared → Prop} (hg : A.guards = some []) (hy : s.heap.get? y = some (baO b)) (h : Q () s) : wpC (model prog w) A (Builtin.Bytes.checkResize (.ref y)) Q s := by
 unfold Builtin.Bytes.checkResize
 refine wpC_bind (Q := Q) (m := (Builtin.Bytes.exported (.ref y) <||> (do return (← Builtin.Bytes.exportsOf (.ref y)) > 0))) ?_
 refine wpC_bind (m := Builtin.Bytes.exported (.ref y)) (wpC_exported hg ?_)
 show wpC _ _ (do return decide ((← Builtin.Bytes.exportsOf (.ref y)) > 0)) _ _
 unfold Builtin.Bytes.exportsOf
 refine wpC_of (wpAny_bind (wpAny_bind (wpAny_load hy (wpAny_pure (wpAny_pure ?_)))))
 exact wpC_pure h
theorem ba_extend {y : Addr} {b bs : Array UInt8} {t : Tok} {Q : Value → Shared → Prop} (hg : A.guards = some []) (hy : s.heap.get? y = some (baO b)) (hz : (b ++ bs).size ≤ 16777216)
  (hQ : ∀ h', Heap.SameBut y s.heap h' → h'.get? y = some (baO (b ++ bs)) → Q .none { s with heap := h' }) : wpC (model prog w) A (call (.builtin "bytearray.extend") [.ref y, .bytes bs t]) Q s := by
 refine wpC_call (codeC_call_builtin ba_slot.plain ba_entry (ba_dec _) (ba_slot.check _ _ _ _ _ _ _ _ ⟨_, hy, rfl⟩ (ba_args _ _) ?_))
 unfold Builtin.«bytearray.extend»
 refine wpC_part (wpAny_of_eq (a := (Value.ref y, Value.bytes bs t)) (by kernel_rfl) ?_)
 refine wpC_part (wpAny_specialOf (typeIs_bytes _ _ _) by_buffer ?_)
 show wpC _ _ (if (some (Value.builtin "bytes.__buffer__")).isSome = true then _ else _) _ _
 refine wpC_ifT rfl ?_
 refine wpC_part (wpAny_rule ?_)
 refine wpC_part (wp_payload hy ?_)
 refine wpC_part (wpAny_of_eq takeq_eq ?_)
 show wpC _ _ (if (none : Option Value).isNone = true then _ else _) _ _
 refine wpC_ifT rfl ?_
 show wpC _ _ (do
  if !bs.isEmpty then Builtin.Bytes.checkResize (.ref y)
  Builtin.Bytes.write (.ref y) (· ++ bs)
  ret .none) _ _
 have fin : wpC (model prog w) A.in1 (Builtin.Bytes.write (.ref y) (· ++ bs) >>= fun _ => ret .none) (fun fin s' => match fin with | .done f => (match f with | .ret v => Q v s' | _ => False) | .again c' => c'.quiet = true ∧ codeC (model prog w) A c' (fun fl s' => match fl with | .ret v => Q v s' | _ => False) s') s :=
  wpC_part (wp_write hy rfl hz fun h' hs e => wpC_pure (hQ h' hs e))
 cases bs.isEmpty with
 | true => exact fin
 | false => exact wpC_bind (wpC_free (A := A.in1) hg hy fin)
end
theorem bc_mro : mroOf (.type "bytearray") = pure [.type "bytearray", .type "object"] := by rw [mroOf_type]; kernel_rfl
theorem bc_lookup_new : typeLookup (.type "bytearray") "__new__" = pure (some (.builtin "bytearray.__new__")) := by rw [typeLookup_type, builtinLookup_eq_fast]; kernel_rfl
theorem bc_slot_init : Slot "bytearray" "__init__" "bytearray.__init__" :=
 .of (owner := "bytearray") (n := "__init__") (by rw [typeLookup_type, builtinLookup_eq_fast]; kernel_rfl) (by decide +kernel) (by decide +kernel) (by decide +kernel)
  (by first | exact .inl (by decide +kernel) | exact .inr (by decide +kernel)) (by rw [isSubtype_type]; kernel_rfl)
theorem bc_called : TypeCalled "bytearray" "bytearray.__new__" "bytearray.__init__" :=
 ⟨by decide +kernel, by decide +kernel, ⟨_, _, bc_mro⟩, madeBy_type bc_mro bc_lookup_new (by decide +kernel), by decide +kernel, by rw [isSubtype_type]; kernel_rfl, bc_slot_init⟩
theorem bc_typeCall : checkTypeCall "bytearray" ⟨[], []⟩ = pure () := by kernel_rfl
theorem bc_newCall : checkBuiltinCall "bytearray.__new__" ⟨[.type "bytearray"], []⟩ = pure () := by kernel_rfl
theorem bc_entry_new : entryFor table "bytearray.__new__" = some Builtin.«list.__new__» := entryFor_alias (id' := "list.__new__") (by rw [fastTable_eq_tree]; kernel_rfl) (by decide +kernel) (by decide +kernel) (by rw [fastTable_eq_tree]; kernel_rfl)
theorem bc_entry_init : entryFor table "bytearray.__init__" = some Builtin.«bytearray.__init__» := entryFor_of_tree (by kernel_rfl)
theorem bc_plain_new : plainId "bytearray.__new__" = true := by decide +kernel
theorem bc_args_init (a : Value) : argsOk "bytearray.__init__" ⟨[a], []⟩ := by unfold argsOk; kernel_rfl
theorem bc_sub : isSubtype (.type "bytearray") (.type "bytearray") = pure true := by rw [isSubtype_type]; kernel_rfl
set_option maxRecDepth 1000000 in
set_option maxHeartbeats 4000000 in
theorem bc_owner : ("bytearray.__new__".splitOn ".__new__").headD "" = "bytearray" := by simp +decide [String.splitOn, String.splitOnAux]
section
theorem bc_new {Q₁ : Value → Shared → Prop} (h : Q₁ (.ref s.heap.objs.size) { s with heap := s.heap.push (baO #[]) }) :
  codeAny (model prog w) A (.call (.builtin "bytearray.__new__") ⟨[.type "bytearray"], []⟩) (wants Q₁ E) s := by
 refine codeAny_of_tree ?_
 show wpAny _ A.in1 (do checkBuiltinCall "bytearray.__new__" ⟨[.type "bytearray"], []⟩; again (.builtin "bytearray.__new__" ⟨[.type "bytearray"], []⟩)) _ _ s
 refine wpAny_bind (wpAny_of_eq bc_newCall (wpAny_pure ⟨plainId_quiet bc_plain_new _, codeAny_builtin_stack bc_entry_new rfl fun p st => ?_⟩))
 rw [Around.under_plainId bc_plain_new _]
 have hsub := bc_sub
 have hown := bc_owner
 obtain ⟨hp, g, d, tk, os⟩ := s
 simp only [hown]
 wp_walk
 exact h
theorem bc_look_rel : typeLookup (.type "bytearray") "__release_buffer__" = pure (some (.builtin "bytearray.__release_buffer__")) := by rw [typeLookup_type, builtinLookup_eq_fast]; kernel_rfl
theorem bc_ownRel {y : Addr} {b : Array UInt8} {Q : Bool → Shared → Prop} (hy : s.heap.get? y = some (baO b)) (h : Q false s) : wpAny (model prog w) A (Builtin.Bytes.ownRelease (.ref y)) Q E s := by
 have key : ∀ x : String, x = "bytearray" → ∀ {Q : Bool → Shared → Prop}, Q true s → wpAny (model prog w) A (isInstance (.ref y) (.type x)) Q E s := fun x hx Q h => by rw [hx]; exact wpAny_isInstance (T := "bytearray") ⟨_, hy, rfl⟩ bc_sub h
 unfold Builtin.Bytes.ownRelease
 refine wpAny_bind (m := Builtin.Bytes.slotIsOwn (.ref y) "__release_buffer__") ?_
 unfold Builtin.Bytes.slotIsOwn
 refine wpAny_bind (wpAny_specialOf (T := "bytearray") ⟨_, hy, rfl⟩ bc_look_rel ?_)
 show wpAny _ _ (if (!String.endsWith "bytearray.__release_buffer__" ("." ++ "__release_buffer__")) = true then _ else _) _ _ _
 rw [if_neg (by decide +kernel)]
 exact key _ (by decide +kernel) (wpAny_pure h)
theorem bc_init {y : Addr} {R : Flow → Shared → Prop} (hg : A.guards = some []) (hy : s.heap.get? y = some (baO #[])) (hR : ∀ h', Heap.SameBut y s.heap h' → h'.get? y = some (baO #[]) → R (.ret .none) { s with heap := h' }) :
  codeC (model prog w) A (.call (.builtin "bytearray.__init__") ⟨[.ref y], []⟩) R s := by
 refine codeC_call_builtin bc_slot_init.plain bc_entry_init (show Builtin.Bytes.decodersThatHold.contains "bytearray.__init__" = false by decide +kernel) (bc_slot_init.check _ _ _ _ _ _ _ _ ⟨_, hy, rfl⟩ (bc_args_init _) ?_)
 unfold Builtin.«bytearray.__init__»
 refine wpC_part (bc_ownRel hy ?_)
 show wpC _ _ (if false = true then _ else _) _ _
 refine wpC_ifF (by decide) ?_
 refine wpC_part (wpAny_of_eq (a := [none, none, none]) (by kernel_rfl) ?_)
 refine wpC_part (wpAny_of_eq (a := ()) (by kernel_rfl) ?_)
 refine wpC_part (wpAny_of_eq (a := ()) (by kernel_rfl) ?_)
 refine wpC_bind (m := (Builtin.Bytes.exported (.ref y) <||> (do return (← Builtin.Bytes.exportsOf (.ref y)) > 0))) ?_
 refine wpC_bind (m := Builtin.Bytes.exported (.ref y)) (wpC_exported hg ?_)
 show wpC _ _ (do return decide ((← Builtin.Bytes.exportsOf (.ref y)) > 0)) _ _
 unfold Builtin.Bytes.exportsOf
 refine wpC_of (wpAny_bind (wpAny_bind (wpAny_load hy (wpAny_pure (wpAny_pure ?_)))))
 show wpC _ _ (if false = true then _ else _) _ _
 refine wpC_ifF (by decide) ?_
 refine wpC_part (wp_write hy rfl (by decide) fun h' hs e => ?_)
 exact wpC_part (wpAny_pure (wpC_pure (hR h' hs e)))
theorem codeC_builtin {id : String} {args : Args} {b : Builtin} {R : Flow → Shared → Prop} (hd : decB (.builtin id args) = false) (hb : entryFor table id = some b)
  (h : wpC (model prog w) (A.under (.builtin id args)) (b args) (fun fin s' => match fin with | .done f => R f s' | .again c' => c'.quiet = true ∧ codeC (model prog w) A c' R s') s) : codeC (model prog w) A (.builtin id args) R s := by
 refine codeC_of_tree hd ?_
 show wpC _ _ (match entryFor table id with | some b => b args | none => unsupported ((withoutEnding? id "#data").getD id)) _ s
 rw [hb]; exact h
theorem tc_dec (args : Args) : decB (.builtin "type.__call__" args) = false := by
 show Builtin.Bytes.decodersThatHold.contains "type.__call__" = false
 decide +kernel
theorem bc_call {Q : Value → Shared → Prop} (hg : A.guards = some []) (hQ : ∀ h', Heap.SameBut s.heap.objs.size (s.heap.push (baO #[])) h' → h'.get? s.heap.objs.size = some (baO #[]) → Q (.ref s.heap.objs.size) { s with heap := h' }) :
  wpC (model prog w) A (call (.type "bytearray") []) Q s := by
 refine wpC_call (codeC_of_tree rfl ?_)
 show wpC _ _ (callAny (.type "bytearray") _) _ _
 refine wpC_pure ⟨Code.quiet_builtin _ (by decide +kernel), codeC_builtin (tc_dec _) F.entry_type_call ?_⟩
 rw [Around.under_plain (weight_type_call_type "bytearray" [] []) rfl]
 unfold Builtin.«type.__call__»
 show wpC _ _ (if (Value.type "bytearray" == Value.type "type") = true then _ else _) _ _
 refine wpC_ifF (by rw [bc_called.notType]; decide) ?_
 show wpC _ _ (if (((Manifest.find? "bytearray").bind fun x => List.findSome? _ x.mro).getD false) = true then _ else _) _ _
 refine wpC_ifF (by rw [bc_called.canCreate]; decide) ?_
 refine wpC_part (wpAny_of_eq bc_typeCall ?_)
 refine wpC_part (wpAny_of_eq bc_mro ?_)
 refine wpC_ifF (by decide) ?_
 refine wpC_part (wpAny_of_eq bc_called.made ?_)
 refine wpC_part (wpAny_pure ?_)
 have hy : (s.heap.push (baO #[])).get? s.heap.objs.size = some (baO #[]) := Heap.get?_push_size _ rfl
 refine wpC_part (wpAny_holding (wpAny_call (codeAny_mono (bc_new (Q₁ := fun v s' => v = .ref s.heap.objs.size ∧ s' = { s with heap := s.heap.push (baO #[]) }) (E := fun _ _ => False) ⟨rfl, rfl⟩) fun r s₁ hr => ?_)))
 rcases r with e | (v | _ | _ | _) <;> first | exact hr.elim | skip
 obtain ⟨rfl, rfl⟩ := hr
 refine wpC_part (wpAny_isInstance (T := "bytearray") ⟨_, hy, rfl⟩ bc_sub ?_)
 refine wpC_ifF (by decide) ?_
 refine wpC_bind (wpC_holding ?_)
 unfold callSpecial?
 refine wpC_part (wpAny_specialOf (T := "bytearray") ⟨_, hy, rfl⟩ bc_slot_init.lookup ?_)
 refine wpC_holding ?_
 refine wpC_part (wpAny_of_eq (bc_slot_init.bind _) ?_)
 refine wpC_bind (m := call (.builtin "bytearray.__init__") [.ref s.heap.objs.size]) (wpC_call (bc_init (A := A.in1) hg hy fun h' hs e => ?_))
 refine wpC_pure ?_
 show wpC _ _ (if (Value.none != Value.none) = true then _ else _) _ _
 refine wpC_ifF (by decide) ?_
 exact wpC_pure (hQ h' hs e)
end
section
set_option maxHeartbeats 1000000
section
variable {C : Addr} {R : Flow → Shared → Prop} {g : Array GenState} {d : Drawn} {t : Nat} {os : OsState}
theorem codeC_call_builtin_at {id : String} {args : Args} {b : Builtin} {s : Shared} (hq : (Code.builtin id args).quiet = true) (hb : entryFor table id = some b) (hd : decB (.builtin id args) = false)
  (h : wpAny (model prog w) A.in1 (checkBuiltinCall id args) (fun _ s₁ => wpC (model prog w) (A.under (.builtin id args)) (b args) (fun fin s' => match fin with | .done f => R f s' | .again c' => c'.quiet = true ∧ codeC (model prog w) A c' R s') s₁) (fun _ _ => False) s) :
  codeC (model prog w) A (.call (.builtin id) args) R s := by
 refine codeC_of_tree rfl ?_
 show wpC _ A.in1 (do checkBuiltinCall id args; again (.builtin id args)) _ s
 exact wpC_part (wpAny_mono h (fun _ s₁ h₁ => wpC_pure (And.intro hq (codeC_builtin hd hb h₁))) fun _ _ z => z)
theorem make_coreC {init : Value} (Y : Makes (model prog w) h C) (hi : Looks (model prog w) h (typeLookup (.ref C) "__init__") (some init))
  (hb : ∀ self, Looks (model prog w) h (bindSpecial init self) (init, [self])) (hne : (some init != some (Value.builtin "object.__init__")) = true ∨ (([] : List Value) = [] ∧ ([] : List (Str × Value)) = []))
  (hq : codeC (model prog w) (A.under (.builtin "type.__call__" ⟨[.ref C], []⟩)) (.call init ⟨[.ref (h.objs.size + 1)], []⟩) (fun fl s' => match fl with | .ret v => v = .none ∧ R (.ret (.ref (h.objs.size + 1))) s' | _ => False) ⟨(h.push emptyDict).push (instObj C h.objs.size), g, d, t, os⟩) :
  codeC (model prog w) A (.call (.ref C) ⟨[], []⟩) R ⟨h, g, d, t, os⟩ := by
 have Y' := Y
 obtain ⟨⟨oc, od, cd, sl, hC, e1, e2, e4⟩, made, base, self, top, call, typ⟩ := Y
 refine codeC_of_tree rfl ?_
 show wpC _ _ (load C >>= _) _ _
 refine wpC_part (wpAny_load hC ?_)
 show wpC _ _ (callAny.viaDunder (.ref C) _) _ _
 unfold callAny.viaDunder
 refine wpC_part (call.at ?_)
 dsimp only
 rw [tc_bind]
 refine wpC_part (wpAny_pure (wpC_part (wpAny_pure ?_)))
 refine wpC_pure (a := Fin.again (.call (.builtin "type.__call__") ⟨[.ref C], []⟩)) (And.intro rfl ?_)
 refine codeC_call_builtin_at (Code.quiet_builtin _ (by decide +kernel)) entry_typeCall (tc_dec _) (check_slot tc_kind tc_split typ (tc_args _ _ _) ?_)
 unfold Builtin.«type.__call__»
 have hm : Looks (model prog w) h (mroOf (.ref C)) cd.mro := ((Looks.ld (part := none) hC).andThen .now).andThen .now
 refine wpC_ifF (show ¬ (false = true) by decide) ?_
 refine wpC_part (hm.at ?_)
 refine wpC_ifF (by rw [e4]; decide) ?_
 refine wpC_part (made.at ?_)
 refine wpC_part (wpAny_pure ?_)
 refine wpC_part (wpAny_holding (wpAny_call (codeAny_mono (new_K (R := fun r s' => r = .ok (.ret (.ref (h.objs.size + 1))) ∧ s' = ⟨(h.push emptyDict).push (instObj C h.objs.size), g, d, t, os⟩) Y' hi hne ⟨rfl, rfl⟩) fun r s₁ hr => ?_)))
 obtain ⟨rfl, rfl⟩ := hr
 have k : ∀ b o, h.get? b = some o → ((h.push emptyDict).push (instObj C h.objs.size)).get? b = some o := fun b o e => Heap.get?_push_of_some _ (Heap.get?_push_of_some _ e)
 have hx : ((h.push emptyDict).push (instObj C h.objs.size)).get? (h.objs.size + 1) = some (instObj C h.objs.size) := by heap_get
 have t1 : Looks (model prog w) ((h.push emptyDict).push (instObj C h.objs.size)) (typeOf (.ref (h.objs.size + 1))) (.ref C) := (Looks.ld hx).andThen .now
 have s1 := self.keeps k
 have i1 := hi.keeps k
 have b1 := (hb (.ref (h.objs.size + 1))).keeps k
 have u1 : Looks (model prog w) ((h.push emptyDict).push (instObj C h.objs.size)) (isInstance (.ref (h.objs.size + 1)) (.ref C)) true := t1.andThen s1
 have u2 : Looks (model prog w) ((h.push emptyDict).push (instObj C h.objs.size)) (specialOf (.ref (h.objs.size + 1)) "__init__") (some init) := t1.andThen i1
 refine wpC_part (u1.at ?_)
 refine wpC_ifF (by decide) ?_
 refine wpC_bind (wpC_holding ?_)
 unfold callSpecial?
 refine wpC_part (u2.at ?_)
 refine wpC_holding ?_
 refine wpC_part (b1.at ?_)
 refine wpC_bind (m := PySem.call init [.ref (h.objs.size + 1)]) (wpC_call (codeC_mono hq fun fl s' z => ?_))
 cases fl with
 | ret v =>
  obtain ⟨rfl, z⟩ := z
  refine wpC_pure ?_
  show wpC _ _ (if (Value.none != Value.none) = true then _ else _) _ _
  refine wpC_ifF (by decide) ?_
  exact wpC_pure z
 | _ => exact z.elim
end
end
section
section
variable {α β γ : Type}
theorem s_makeC {c : Str} {Ca fI : Addr} {φ : Ctr} {Q : V → DS → Prop} (C : CxOk G cx) (O : AOk cx A (r + 1)) (hx : nsIn G.K mainGlobals c = some (some (.ref Ca))) (hm : makesIn G.K Ca = true)
  (hi : findIn G.K (.ref Ca) "__init__" = some (some (.ref fI))) (hf : typeIn G.K (.ref fI) = some (.type "function")) (S : SoundFC G r fI φ) (hv : makeV φ c [] st Q NoX) : WVC G cx A ex (call (.ref Ca) []) Q g ad st := by
 intro s Q' R hg k
 obtain ⟨hh, gs, d, t, os⟩ := s
 refine wpC_call ?_
 refine make_coreC (makes_of (R.kin C) hm) (looks_findIn (R.kin C) hi) (fun self => bind_fn (R.kin C) self hf) (.inl rfl) ?_
 have R₁ := (R.pushEx (o := emptyDict) rfl).pushEx (o := instObj Ca hh.objs.size) rfl
 have hsz : (hh.push emptyDict).objs.size = hh.objs.size + 1 := Heap.size_push ..
 rw [hsz] at R₁
 have R₂ := Rel.exMu (m := .inst c []) (a := hh.objs.size + 1) (own := [(hh.objs.size + 1, instObj Ca hh.objs.size), (hh.objs.size, emptyDict)]) R₁
  (.inst (m := fun _ => none) hx rfl rfl rfl ⟨#[], 0, rfl, fun e he => absurd he (Array.not_mem_empty e), fun n => rfl⟩ ⟨#[], 0, rfl, Nat.zero_le _⟩ (fun x v h => none_some h) (fun _ _ => rfl))
 have hself : VR G g (ad ++ [hh.objs.size + 1]) (.cel st.mu.length) (.ref (hh.objs.size + 1)) := .cel (last_at R.lad)
 refine codeC_mono (s_codeFC (s := ⟨(hh.push emptyDict).push (instObj Ca hh.objs.size), gs, d, t, os⟩) (Q' := fun v s' => v = .none ∧ Q' (.ref (hh.objs.size + 1)) s') C O S (.cons hself .nil) hv R₂ hg (fun v val g' st' s' S' rv q R' hg' ho => ?_) (tc_under A _)) fun fl s' z => ?_
 ·obtain ⟨rfl, q⟩ := noneK_elim q
  obtain rfl := rv.inv
  exact ⟨rfl, k _ g' _ st' s' S' ⟨_, rfl⟩ ⟨_, hself.mono S' (prefix_refl _), q⟩ R' hg' ho⟩
 ·cases fl <;> exact z
theorem sl_nil {pos : Pos} : Sl G cx A ex X nc env (spliced (backTo pos (starEach [] env))) (fun Q st => Q [] st) := fun Q g ad st N h => W.pure ⟨[], .nil, h⟩
theorem rc_CallC {x : Str} {np pos : Pos} {Ca fI : Addr} {φ : Ctr} (C : CxOk G cx) (O : AOk cx A (r + 1)) (hk : nc.sc.names.lookup x = some .globalImplicit) (hd : (x == ("__debug__" : Str)) = false) (hx : nsIn G.K mainGlobals x = some (some (.ref Ca))) (hm : makesIn G.K Ca = true)
  (hi : findIn G.K (.ref Ca) "__init__" = some (some (.ref fI))) (hf : typeIn G.K (.ref fI) = some (.type "function")) (hkp : keepIn G.K (.ref Ca) = true) (S : SoundFC G r fI φ) : SdC G cx A ex nc env (eval (.Call (.Name x np) [] [] pos) env) (fun Q st => makeV φ x [] st Q NoX) := fun Q g ad st N h s Q' R hg hq => by
 have T := R.top C
 rw [eval_Call_fn (func := .Name x np) (by intro o n p e; cases e)]
 refine wpC_part (Name_function_global (N.kind C) (by rw [← hk, N.sc]; rfl) (loadGlobal_global (env := env) (by rw [N.glob C]; exact T.g) (mg_of (R.kin C) T.g hx) ?_) hd)
 exact s_callWithC (P := fun vs st => vs = [] ∧ makeV φ x [] st Q NoX) C (CallOk.keep hkp) rfl sl_nil N ⟨rfl, h⟩ (fun vals vs g' ad' st' S' p N' rs q => by
  obtain ⟨rfl, q⟩ := q
  obtain rfl := rs.inv
  exact s_makeC C O hx hm hi hf S q) s Q' R hg hq
theorem wsC_AssignName {x : Str} {px pos : Pos} {e : Expr} {F₁ : (V → DS → Prop) → DS → Prop} (C : CxOk G cx) (hs : isComp e = false) (hx : storable cx.envF.scope x = true) (h1 : SdC G cx A ex ⟨cx.envF.scope, none⟩ cx.envF (eval e cx.envF) F₁) (h : F₁ (fun v st => N (st.set x v)) st) :
  WSC G cx A ex (exec (.Assign [.Name x px] e pos) cx.envF) N Rt g ad st := fun s Q' R hg kn kr kl => by
 have e0 : exec (.Assign [.Name x px] e pos) cx.envF = (do
  PySem.standAt pos
  let v ← eval e cx.envF
  PySem.standAt px
  bindName cx.envF x v
  Pure.pure .next) := exec_Assign_Name cx.envF x px e pos (swaps_plain hs _ _ _)
 rw [e0]
 refine wpC_part (wpAny_standAt (wpC_bind (h1 _ g ad st .fn h s _ R hg fun a g' ad' st' s' S p ⟨v, rv, q⟩ R' hg' ho => ?_)))
 refine wpC_part (wpAny_standAt (wpC_part ?_))
 refine wpAny_bindName (s_store C rv (storable_or hx) R' fun h' tk R₂ _ => wpC_pure (kn g' ad' _ _ S p q R₂ hg' ho))
end
theorem ba_plain : PlainAttrs "bytearray" :=
 ⟨⟨"bytearray.__getattribute__", by rw [typeLookup_type, builtinLookup_eq_fast]; kernel_rfl, by decide +kernel⟩, by rw [typeLookup_type, builtinLookup_eq_fast]; kernel_rfl⟩
theorem ba_type : typeOf (.builtin "bytearray.extend") = pure (.type "method_descriptor") := by show builtinType _ = _; rw [builtinType_eq_fast]; kernel_rfl
end
section
noncomputable def octS : Str := ofString "octets"
noncomputable def sinkM (b : Array UInt8) : M := .inst (ofString "Sink") [(octS, .barr b)]
section
variable {α β γ : Type}
theorem s_setBarr {j : Nat} {c x : Str} {a Ca dx y : Addr} {od : Obj} {b : Array UInt8} {Q : Unit → Shared → Prop} (C : CxOk G cx) (R : Rel G cx ((a, instObj Ca dx) :: (dx, od) :: (y, baO b) :: ex) g ad st s.heap)
  (hj : st.mu[j]? = some .dead) (ha : ad[j]? = some a) (hc : nsIn G.K mainGlobals c = some (some (.ref Ca))) (d1 : od.cls = .type "dict") (d2 : od.slots = #[]) (d3 : od.dict = .none) (n : NsO od (fun _ => none)) (z : DSz od 0) (hk : setOk G.K c x = true)
  (k : ∀ h' tk, Rel G cx ex g ad { st with mu := st.mu.set j (.inst c [(x, .barr b)]) } h' → Q () { s with heap := h', toks := tk }) : wpAny (model G.prog G.w) A (setAttr (.ref a) x (.ref y)) Q E s :=
 s_setField (ex := (y, baO b) :: ex) C R hc d1 d2 d3 n z (Nat.zero_le _) hk fun od' h' tk p2 p3 p4 p5 _ R₃ => k h' tk (Rel.back (l := [(a, instObj Ca dx), (dx, od'), (y, baO b)]) R₃ hj ha (.sink hc p2 p3 p4 p5 rfl (if_pos rfl) fun w hw => (if_neg hw).trans rfl))
noncomputable def barV (v : V) (K : Array UInt8 → Prop) : Prop := match v with
 | .barr b => K b
 | _ => False
noncomputable def bytP (v : V) (K : Array UInt8 → Prop) : Prop := match v with
 | .bytes b => K b
 | _ => False
noncomputable def insM (m : M) (K : Str → List (Str × V) → Prop) : Prop := match m with
 | .inst c fs => K c fs
 | _ => False
noncomputable def deadM (m : M) (P : Prop) : Prop := match m with
 | .dead => P
 | _ => False
theorem barV_i {v : V} {K : Array UInt8 → Prop} (h : barV v K) : ∃ b, v = .barr b ∧ K b := by cases v <;> first | exact ⟨_, rfl, h⟩ | exact False.elim h
theorem bytP_i {v : V} {K : Array UInt8 → Prop} (h : bytP v K) : ∃ b, v = .bytes b ∧ K b := by cases v <;> first | exact ⟨_, rfl, h⟩ | exact False.elim h
theorem insM_i {m : M} {K : Str → List (Str × V) → Prop} (h : insM m K) : ∃ c fs, m = .inst c fs ∧ K c fs := by cases m <;> first | exact ⟨_, _, rfl, h⟩ | exact False.elim h
theorem deadM_i {m : M} {P : Prop} (h : deadM m P) : m = .dead ∧ P := by cases m <;> first | exact ⟨rfl, h⟩ | exact False.elim h
noncomputable def extT (T : Tabs) (x : Str) (L : (List V → DS → Prop) → DS → Prop) (N : DS → Prop) (v : V) (st : DS) : Prop :=
 celP v fun j => oElim st.mu[j]? fun m => insM m fun c fs => oneL fs fun p => barV p.2 fun b => chk (p.1 == x && T.fd c x) (L (fun vs st' => oneP vs fun v => bytP v fun bs => oElim st'.mu[j]? fun m => deadM m <|
  chk (Nat.ble (b ++ bs).size 16777216) (N { st' with mu := st'.mu.set j (.inst c [(x, .barr (b ++ bs))]) })) { st with mu := st.mu.set j .dead })
noncomputable def initT (T : Tabs) (x : Str) (N : DS → Prop) (v : V) (st : DS) : Prop :=
 celP v fun j => oElim st.mu[j]? fun m => insM m fun c fs => chk fs.isEmpty <| chk (T.so c x) (N { st with mu := st.mu.set j (.inst c [(x, .barr #[])]) })
theorem wc_bytearray {np pos : Pos} {Q' : Value → Shared → Prop} (C : CxOk G cx) (Nv : EnvOk G cx ex g ad nc env) (hk : nc.sc.names.lookup (ofString "bytearray") = some .globalImplicit) (hx : nsIn G.K mainGlobals (ofString "bytearray") = some none) (hg : A.guards = some [])
  (R : Rel G cx ex g ad st s.heap) (k : ∀ y h', Rel G cx ((y, baO #[]) :: ex) g ad st h' → Q' (.ref y) { s with heap := h' }) : wpC (model G.prog G.w) A (eval (.Call (.Name (ofString "bytearray") np) [] [] pos) env) Q' s := by
 rw [eval_Call_fn (func := .Name (ofString "bytearray") np) (by intro o n p e; cases e)]
 refine wpC_part (name_boot C Nv hk hx (f := .type "bytearray") (by decide +kernel) (by decide +kernel) (by decide +kernel) R ?_)
 refine wpC_callWith (P := G.K.In) (noStar_any (es := []) rfl) (fun h X => CallOk.type "bytearray" (model G.prog G.w) h X) (wpC_of (evalArgs_es (es := []) rfl (wpAny_pure ⟨R.kin C, rfl, ?_⟩)))
 refine bc_call hg fun h' hs e => k _ h' ?_
 exact (R.pushEx (o := baO #[]) rfl).putEx hs e
theorem wsC_init {T : Tabs} {o : Expr} {x : Str} {ap np cp pos : Pos} {F₂ : (V → DS → Prop) → DS → Prop} (C : CxOk G cx) (O : AOk cx A r) (hT : TabsOk G.K T) (hk : cx.envF.scope.names.lookup (ofString "bytearray") = some .globalImplicit) (hx : nsIn G.K mainGlobals (ofString "bytearray") = some none)
  (h2 : ∀ ex, Sd G cx A ex NoX ⟨cx.envF.scope, none⟩ cx.envF (eval o cx.envF) F₂) (h : F₂ (initT T x N) st) :
  WSC G cx A ex (exec (.Assign [.Attribute o x ap] (.Call (.Name (ofString "bytearray") np) [] [] cp) pos) cx.envF) N Rt g ad st := fun s Q' R hg kn kr kl => by
 rw [plainObj_exec_Assign_Attribute o x ap _ pos (swaps_plain rfl _ _ _)]
 refine wpC_part (wpAny_standAt (wpC_bind (wc_bytearray C .fn hk hx O.guards R fun y h' R₁ => ?_)))
 rw [assign_Attribute]
 refine wpC_part (wpAny_bind (wpAny_holding (h2 _ _ g ad st .fn h ⟨h', s.gens, s.drawn, s.toks, s.os⟩ _ _ R₁ hg (fun a g' ad' st' s' S p z R' hg' ho => Exists.elim z fun v z => ?_) fun c e s' hX => hX.elim)))
 refine wpAny_bind (wpAny_standAt (wpAny_bind (wpAny_holding ?_)))
 obtain ⟨j, e, q⟩ := celP_i z.2
 subst e
 refine z.1.cel_e fun a ha => oE_e q fun m hj q => ?_
 obtain ⟨c, fs, e, q⟩ := insM_i q
 have q1 := chk_elim q
 have q2 := chk_elim q1.2
 have ef := nil_of q1.1
 subst e ef
 refine R'.lend_e hj fun a' l h1 mr R₂ => ?_
 have ea := Option.some.inj (h1.symm.trans ha)
 subst ea
 refine mr.inst_e (fun Ca dx od m e e1 e2 e3 e4 n z f f' => ?_) fun _ _ _ _ _ _ _ _ _ _ _ _ _ f1 _ _ => nomatch f1
 have hm : m = fun _ => none := funext fun y => f' y rfl
 subst e hm
 exact s_setBarr C R₂ (List.getElem?_set_self (List.getElem?_eq_some_iff.mp hj).1) h1 e1 e2 e3 e4 n z (hT.so _ _ q2.1) fun h₃ tk R₃ => wpAny_release (wpC_pure (kn g' ad' _ _ S p q2.2 (set_set (mu := st'.mu) (j := j) (m := .dead) (m' := .inst c [(x, .barr #[])]) ▸ R₃) hg' ho))
theorem s_getBarr {a Ca dx y : Addr} {od : Obj} {b : Array UInt8} {c x : Str} {m : Str → Option Value} {Q : Value → Shared → Prop} (C : CxOk G cx) (R : Rel G cx ((a, instObj Ca dx) :: (dx, od) :: (y, baO b) :: ex) g ad st s.heap)
  (hc : nsIn G.K mainGlobals c = some (some (.ref Ca))) (n : NsO od m) (hm : m x = some (.ref y)) (hf : fieldOk G.K c x = true) (hq : ∀ tk, Q (.ref y) { s with toks := tk }) : wpAny (model G.prog G.w) A (getAttr (.ref a) x true) Q E s := by
 have f := fieldOk_i hf hc
 have I : InstAt s.heap a (instObj Ca dx) Ca (some od) := ⟨R.exAt (.head _), rfl, rfl, R.exAt (.tail _ (.head _))⟩
 exact get_value (R.kin C) I (plainGet_of f.1).1 (findObj_own f.2.1 f.2.2 rfl (by rw [n.look, hm])) rfl (hq _)
theorem bar_mr {c y : Str} {b : Array UInt8} {a : Addr} {l : List (Addr × Obj)} {P : Prop} (mr : MR G g ad (.inst c [(y, .barr b)]) a l)
  (k : ∀ Ca dx od m z, l = [(a, instObj Ca dx), (dx, od), (z, baO b)] → nsIn G.K mainGlobals c = some (some (.ref Ca)) → od.cls = .type "dict" → od.slots = #[] → od.dict = .none → NsO od m → m y = some (.ref z) → (∀ z, z ≠ y → m z = none) → P) : P :=
 mr.inst_e (fun _ _ _ _ _ _ _ _ _ _ _ f _ => absurd rfl ((f y (.barr b) (by rw [look_cons0, if_pos (beq_self_eq_true y)])).1 b)) fun C dx od m x₀ b' z e e1 e2 e3 e4 n f1 f2 f3 => by
  cases f1
  exact k C dx od m z e e1 e2 e3 e4 n f2 f3
theorem s_ext {T : Tabs} {x : Str} {c : Str} {j : Nat} {b : Array UInt8} {av Ca dx y : Addr} {od : Obj} {m : Str → Option Value} {vals : List Value} {Q' : Value → Shared → Prop} (hg : A.guards = some []) (R₃ : Rel G cx ([(av, instObj Ca dx), (dx, od), (y, baO b)] ++ ex) g ad st s.heap) (ha : ad[j]? = some av)
  (c1 : nsIn G.K mainGlobals c = some (some (.ref Ca))) (c2 : od.cls = .type "dict") (c3 : od.slots = #[]) (c4 : od.dict = .none) (c5 : NsO od m) (c6 : m x = some (.ref y)) (c7 : ∀ z, z ≠ x → m z = none)
  (rs : VRs G g ad vs vals) (q : oneP vs fun v => bytP v fun bs => oElim st.mu[j]? fun m => deadM m (chk (Nat.ble (b ++ bs).size 16777216) (N { st with mu := st.mu.set j (.inst c [(x, .barr (b ++ bs))]) })))
  (k : ∀ st' h', N st' → Rel G cx ex g ad st' h' → Q' .none { s with heap := h' }) : wpC (model G.prog G.w) A (call (.builtin "bytearray.extend") ([.ref y] ++ vals)) Q' s := by
 refine one_e rs q fun v a ra q => ?_
 obtain ⟨bs, e, q⟩ := bytP_i q
 subst e
 refine oE_e q fun m' hd q => ?_
 obtain ⟨e, q⟩ := deadM_i q
 subst e
 refine ra.bytes_e fun t => ba_extend hg (R₃.exAt (.tail _ (.tail _ (.head _)))) (chk_le q).1 fun h₄ hs₄ e₄ => k _ h₄ (chk_le q).2 ?_
 have R₄ := (R₃.perm (ex' := (y, baO b) :: (av, instObj Ca dx) :: (dx, od) :: ex) ((List.Perm.cons _ (List.Perm.swap _ _ _)).trans (List.Perm.swap _ _ _))).putEx hs₄ e₄
 have R₅ : Rel G cx ([(av, instObj Ca dx), (dx, od), (y, baO (b ++ bs))] ++ ex) g ad st h₄ := R₄.perm ((List.Perm.swap _ _ _).trans (List.Perm.cons _ (List.Perm.swap _ _ _)))
 exact R₅.back hd ha (.sink c1 c2 c3 c4 c5 rfl c6 c7)
theorem wsC_ext {T : Tabs} {o : Expr} {x : Str} {ap ap2 cp pos : Pos} {es : List Expr} {F₂ : (V → DS → Prop) → DS → Prop} {L : (List V → DS → Prop) → DS → Prop} (C : CxOk G cx) (O : AOk cx A r) (hT : TabsOk G.K T) (hb : baseOk o = true) (hmf : methForm (.Attribute o x ap) ap2 cp es = true)
  (h2 : Sd G cx A ex NoX ⟨cx.envF.scope, none⟩ cx.envF (eval o cx.envF) F₂) (h1 : ∀ ex, Sl G cx A ex NoX ⟨cx.envF.scope, none⟩ cx.envF (spliced (backTo cp (starEach es cx.envF))) L)
  (h : F₂ (extT T x L N) st) :
  WSC G cx A ex (exec (.Expr (.Call (.Attribute (.Attribute o x ap) (ofString "extend") ap2) es [] cp) pos) cx.envF) N Rt g ad st := fun s Q' R hg kn kr kl => by
 have hi : interactive cx.envF = false := by unfold interactive; rw [C.kind]; rfl
 rw [exec_Expr cx.envF _ pos hi (swaps_plain rfl _ _ _)]
 obtain ⟨pl, e⟩ := eval_meth (name := ofString "extend") (env := cx.envF) hmf
 have hn := methForm_star hmf
 rw [e]
 refine wpC_part (wpAny_standAt (wpC_bind (wpC_part (Attribute_any_ ?_ (by rw [arm_eval_Attribute, base_plain hb])))))
 refine h2 _ g ad st .fn h s _ _ R hg (fun ov g' ad' st' s' S p z R' hg' ho => Exists.elim z fun v z => ?_) fun c e s' hX => hX.elim
 obtain ⟨j, e, q⟩ := celP_i z.2
 subst e
 refine z.1.cel_e fun av ha => oE_e q fun m hj q => ?_
 obtain ⟨c, fs, e, q⟩ := insM_i q
 subst e
 revert hj
 refine oneL_e q fun pr q hj => ?_
 obtain ⟨y', w⟩ := pr
 obtain ⟨b, e, q⟩ := barV_i q
 have q1 := chk_elim q
 have q2 := and_true q1.1
 have ey : y' = x := eq_of_beq q2.1
 replace e : w = .barr b := e
 subst e ey
 refine R'.lend_e hj fun a' l h1' mr R₂ => ?_
 have ea := Option.some.inj (h1'.symm.trans ha)
 subst ea
 refine bar_mr mr fun Ca dx od m y e c1 c2 c3 c4 c5 c6 c7 => ?_
 subst e
 refine s_getBarr (ex := ex) C R₂ c1 c5 c6 (hT.fd _ _ q2.2) fun tk => ?_
 refine wpC_part (wpAny_standAt (wpC_part (wpAny_holding ?_)))
 refine getMethod_builtin ⟨_, R₂.exAt (.tail _ (.tail _ (.head _))), rfl⟩ ba_plain ba_slot ba_type (fun a q => Value.ref.inj q ▸ ⟨_, R₂.exAt (.tail _ (.tail _ (.head _))), rfl⟩) ?_
 refine wpC_callWith (P := G.K.In) (noStar_any hn) (fun h X => CallOk.builtin "bytearray.extend" (model G.prog G.w) h X) (wpC_of (evalArgs_es hn ?_))
 refine h1 _ _ g' ad' _ .fn q1.2 ⟨s'.heap, s'.gens, s'.drawn, tk, s'.os⟩ _ _ R₂ hg' (fun vals g₂ ad₂ st₂ s₂ S₂ p₂ z R₃ hg₂ ho₂ => Exists.elim z fun vs z => ⟨R₃.kin C, rfl, ?_⟩) fun c e s' hX => hX.elim
 refine s_ext (T := T) (N := N) O.guards R₃ (pre_get p₂ ha) c1 c2 c3 c4 c5 c6 c7 z.1 z.2 fun st₄ h₄ hN R₅ => ?_
 rw [dropValue_plain (by intro a; simp)]
 exact wpC_pure (kn g₂ ad₂ _ _ (S.trans S₂) (p.trans p₂) hN R₅ hg₂ (ho₂.trans ho))
end
end
theorem by_no_bytes : typeLookup (.type "bytearray") "__bytes__" = pure none := by rw [typeLookup_type, builtinLookup_eq_fast]; kernel_rfl
theorem by_no_index : typeLookup (.type "bytearray") "__index__" = pure none := by rw [typeLookup_type, builtinLookup_eq_fast]; kernel_rfl
theorem by_buf : typeLookup (.type "bytearray") "__buffer__" = pure (some (.builtin "bytearray.__buffer__")) := by rw [typeLookup_type, builtinLookup_eq_fast]; kernel_rfl
section
theorem by_ownBuf {y : Addr} {b : Array UInt8} {Q : Bool → Shared → Prop} (hy : s.heap.get? y = some (baO b)) (h : Q true s) : wpAny (model prog w) A (Builtin.Bytes.slotIsOwn (.ref y) "__buffer__") Q E s := by
 have key : ∀ x : String, x = "bytearray" → ∀ {Q : Bool → Shared → Prop}, Q true s → wpAny (model prog w) A (isInstance (.ref y) (.type x)) Q E s := fun x hx Q h => by rw [hx]; exact wpAny_isInstance (T := "bytearray") ⟨_, hy, rfl⟩ bc_sub h
 unfold Builtin.Bytes.slotIsOwn
 refine wpAny_bind (wpAny_specialOf (T := "bytearray") ⟨_, hy, rfl⟩ by_buf ?_)
 show wpAny _ _ (if (!String.endsWith "bytearray.__buffer__" ("." ++ "__buffer__")) = true then _ else _) _ _ _
 rw [if_neg (by decide +kernel)]
 exact key _ (by decide +kernel) h
theorem bb_ba {y : Addr} {b : Array UInt8} {Q : Value → Shared → Prop} (hy : s.heap.get? y = some (baO b)) (hz : b.size ≤ 16777216) (hQ : ∀ t, Q (.bytes b t) { s with toks := s.toks + 1 }) : codeAny (model prog w) A (.call (.builtin "bytes.__new__") ⟨[.type "bytes", .ref y], []⟩) (wants Q E) s := by
 refine codeAny_of_tree ?_
 show wpAny _ A.in1 (do checkBuiltinCall "bytes.__new__" ⟨[.type "bytes", .ref y], []⟩; again (.builtin "bytes.__new__" ⟨[.type "bytes", .ref y], []⟩)) _ _ s
 refine wpAny_bind (wpAny_of_eq (F.bm_newCall _) (wpAny_pure ⟨plainId_quiet F.bm_plain _, codeAny_builtin F.bm_entry ?_⟩))
 rw [Around.under_plainId F.bm_plain _]
 have hT : s.TypeIs (.ref y) "bytearray" := ⟨_, hy, rfl⟩
 unfold Builtin.«bytes.__new__»
 refine wpAny_bind (wpAny_of_eq (a := true) rfl ?_)
 refine bm_if_false rfl ?_
 refine wpAny_bind (wpAny_of_eq F.bm_sub ?_)
 refine bm_if_false rfl ?_
 refine wpAny_bind (wpAny_of_eq (F.bm_bind _) ?_)
 refine wpAny_bind (wpAny_of_eq (a := ()) rfl ?_)
 refine wpAny_bind (wpAny_of_eq (a := ()) rfl ?_)
 refine bm_if_false rfl ?_
 refine wpAny_bind (wpAny_specialOf hT by_no_bytes ?_)
 refine wpAny_bind (wpAny_bind ?_)
 show wpAny _ _ (load y >>= _) _ _ _
 refine wpAny_bind (wpAny_load hy ?_)
 refine wpAny_pure (wpAny_pure ?_)
 refine bm_if_false rfl ?_
 refine wpAny_bind (wpAny_specialOf hT by_no_index ?_)
 refine bm_if_true rfl ?_
 first
  | show wpAny _ _ (Builtin.Bytes.buffer? "bytes.__new__" (.ref y) true >>= _) _ _ _
  | (refine wpAny_bind ?_; show wpAny _ _ (Builtin.Bytes.buffer? "bytes.__new__" (.ref y) true >>= _) _ _ _)
 refine wpAny_bind ?_
 unfold Builtin.Bytes.buffer?
 refine wpAny_bind (wpAny_specialOf hT by_buf ?_)
 refine wpAny_bind (by_ownBuf hy ?_)
 refine bm_if_false rfl ?_
 refine wpAny_bind (wpAny_specialOf hT by_buf ?_)
 refine wpAny_bind (bc_ownRel hy ?_)
 refine bm_if_false rfl ?_
 refine wpAny_bind (wp_payload hy (wpAny_pure ?_))
 refine wpAny_bind (wpAny_rule (wpAny_bind (wpAny_mkBytes ?_ (by rw [PySem.sizeLine_eq]; exact hz))))
 show wpAny _ _ (if (Value.type "bytes" == Value.type "bytes") = true then _ else _) _ _ _
 refine bm_if_true (by decide) ?_
 first
  | exact wpAny_pure (hQ _)
  | exact wpAny_bind (wpAny_pure (wpAny_pure (hQ _)))
theorem call_bytes_ba {y : Addr} {b : Array UInt8} {Q : Value → Shared → Prop} (hy : s.heap.get? y = some (baO b)) (hz : b.size ≤ 16777216) (hQ : ∀ t, Q (.bytes b t) { s with toks := s.toks + 1 }) : wpAny (model prog w) A (call (.type "bytes") [.ref y]) Q E s := by
 refine callType_codes (Q₁ := fun obj s₁ => s₁.TypeIs obj "bytes" ∧ Q obj s₁) F.bm_called (F.bm_typeCall _) F.entry_object_init (bb_ba hy hz fun t => ⟨typeIs_bytes _ _ _, hQ t⟩) fun obj s₁ h₁ => ?_
 exact ⟨h₁.1, F.args_object_init_2 obj _, object_init_meets F.bm_called.init.lookup F.bm_called.made (by decide) prog w A.in1 _ s₁ ⟨h₁.1, rfl, h₁.2⟩⟩
end
section
theorem ws_whole {o : Expr} {x c : Str} {ap np cp pos : Pos} {j : Nat} {F₂ : (V → DS → Prop) → DS → Prop} (C : CxOk G cx) (hb : baseOk o = true) (hk : cx.envF.scope.names.lookup (ofString "bytes") = some .globalImplicit) (hx : nsIn G.K mainGlobals (ofString "bytes") = some none)
  (h2 : Sd G cx A ex X ⟨cx.envF.scope, none⟩ cx.envF (eval o cx.envF) F₂) (hf : fieldOk G.K c x = true)
  (h : F₂ (fun v st => v = .cel j ∧ ∃ b, st.mu[j]? = some (.inst c [(x, .barr b)]) ∧ b.size ≤ 16777216 ∧ Rt (.bytes b) (some st)) st) :
  WS G cx A ex (exec (.Return (some (.Call (.Name (ofString "bytes") np) [.Attribute o x ap] [] cp)) pos) cx.envF) N Rt X g ad st := fun s Q' E' R hg kn kr kl ke => by
 rw [exec_Return_some]
 refine wpAny_bind (wpAny_standAt (wpAny_bind ?_))
 rw [eval_Call_fn (func := .Name (ofString "bytes") np) (by intro o n p e; cases e)]
 refine wpAny_bind (name_boot C .fn hk hx (f := .type "bytes") (by decide +kernel) (by decide +kernel) (by decide +kernel) R ?_)
 refine callWith_of (P := G.K.In) (by rw [noStar_any (es := [.Attribute o x ap]) rfl]; rfl) (fun h X => CallOk.type "bytes" (model G.prog G.w) h X) (evalArgs_es (es := [.Attribute o x ap]) rfl ?_)
 refine wpAny_items_cons ?_ rfl
 refine Attribute_any_ ?_ (by rw [arm_eval_Attribute, base_plain hb])
 refine h2 _ g ad st .fn h s _ _ R hg (fun ov g' ad' st' s' S p ⟨v, rv, hv, b, hj, hz, q⟩ R' hg' ho => ?_) ke
 subst hv
 obtain ⟨av, rfl, ha⟩ := rv.inv
 refine R'.lend_e hj fun a' l q1 mr R₂ => ?_
 obtain rfl : av = a' := Option.some.inj (ha.symm.trans q1)
 refine bar_mr mr fun Ca dx od m y e c1 _ _ _ c5 c6 _ => ?_
 subst e
 refine s_getBarr C R₂ c1 c5 c6 hf fun tk => ?_
 refine wpAny_items_nil ⟨R'.kin C, ?_⟩
 refine call_bytes_ba (R₂.exAt (.tail _ (.tail _ (.head _)))) hz fun t => ?_
 exact wpAny_pure (kr (.bytes b) _ g' ad' st' _ S p (.bytes b t) q R' hg' ho)
end
section
section
variable {M : Model}
theorem wpC_args1 {f : Value} {pos : Pos} {e : Expr} {Q : Args → Shared → Prop} (hn : noStar [e] = true) (h : wpC M A (eval e env) (fun v s' => Q ⟨[v], []⟩ s') s) : wpC M A (evalArgs f true (backTo pos (starEach [e] env)) []) Q s := by
 rw [(noStar_head hn).1]
 unfold evalArgs
 show wpC M A ((do
  let v ← eval e env
  let here ← (pure [v] : Sem (List Value))
  return here ++ (← holding here (spliced (backTo pos (starEach [] env))))) >>= _) Q s
 refine wpC_bind (wpC_bind (wpC_mono h fun v s₁ h₁ => wpC_part (wpAny_pure (wpC_part (wpAny_holding (wpAny_pure (wpC_pure ?_)))))))
 refine wpC_part (wpAny_pure (wpC_holding ?_))
 exact wpC_part (wpAny_pure (wpC_part (wpAny_pure (wpC_pure h₁))))
theorem wcb_or {x : Expr} {rest : List Expr} {pos : Pos} {whole : Sem Value} {B₁ : (Bool → DS → Prop) → DS → Prop} {P : Bool → DS → Prop} {K : DS → Prop} (Nv : EnvOk G cx ex g ad nc env) (h1 : Sb G cx A ex NoX nc env (isTrue x env (eval x env)) B₁)
  (h : B₁ (fun c st => if c then P true st else K st) st) (h2 : ∀ g' ad' st', EnvOk G cx ex g' ad' nc env → K st' → WC G cx A ex (isTrue (.BoolOp .Or rest pos) env whole) (fun b _ _ st => P b st) g' ad' st') :
  WC G cx A ex (isTrue (.BoolOp .Or (x :: rest) pos) env whole) (fun b _ _ st => P b st) g ad st := by
 show WC G cx A ex (do
  match BoolOp.Or, ← isTrue x env (eval x env) with
  | .And, false => pure false
  | .Or, true => pure true
  | _, _ => allTrue .Or rest env) _ g ad st
 refine WC.part (W.mono (h1 _ g ad st Nv h) (fun c g' ad' st' S p q => ?_) fun _ x => x)
 cases c with
 | false => exact h2 g' ad' st' (Nv.mono S p) q
 | true => exact WC.pure q
theorem wcb_orC {x : Expr} {rest : List Expr} {pos : Pos} {whole : Sem Value} {P : Bool → DS → Prop} (h1 : WC G cx A ex (isTrue x env (eval x env)) (fun c _ _ st => if c then P true st else P false st) g ad st) :
  WC G cx A ex (isTrue (.BoolOp .Or [x] pos) env whole) (fun b _ _ st => P b st) g ad st := by
 show WC G cx A ex (do
  match BoolOp.Or, ← isTrue x env (eval x env) with
  | .And, false => pure false
  | .Or, true => pure true
  | _, _ => allTrue .Or [] env) _ g ad st
 refine WC.bind (WC.mono h1 fun c g' ad' st' S p q => ?_)
 cases c with
 | false => exact WC.pure q
 | true => exact WC.pure q
theorem wcb_cmp {l e : Expr} {op : CmpOp} {pos : Pos} {whole : Sem Value} {F₁ F₂ : (V → DS → Prop) → DS → Prop} {P : Bool → DS → Prop} (C : CxOk G cx) (O : AOk cx A r) (Nv : EnvOk G cx ex g ad nc env) (h1 : SdC G cx A ex nc env (eval l env) F₁) (h2 : Sd G cx A ex NoX nc env (eval e env) F₂) (hm : behindInMarks op e = false)
  (h : F₁ (fun a st => F₂ (fun b st => c1T op a b P st) st) st) : WC G cx A ex (isTrue (.Compare l [op] [e] pos) env whole) (fun b _ _ st => P b st) g ad st := by
 rw [arm_isTrue_Compare]
 refine WC.bind (WC.mono (h1 _ g ad st Nv h) fun a g' ad' st' S p z => Exists.elim z fun v z => ?_)
 have rv := z.1
 have q := z.2
 have N' := Nv.mono S p
 have e1 : markedEach [op] [e] (evalEach [e] env) = [eval e env] := by
  show [markedBehindIn op e (eval e env)] = _
  rw [markedBehindIn_of_false hm]
 rw [e1]
 show WC G cx A ex (do
  let rv ← PySem.holding [a] (eval e env)
  PySem.standAt pos
  let c ← operate [a, rv] (compareOp op a rv)
  PySem.holding [c] (truthy c)) _ g' ad' st'
 refine WC.part (W.holding (h2.go N' q fun b w g₂ ad₂ st₂ S₂ p₂ N₂ rb q => ?_))
 refine WC.part (W.standAt ?_)
 refine WC.part (W.operate (W.mono (s_cmpB C O (rv.mono S₂ p₂) rb q) (fun c g₃ ad₃ st₃ S₃ p₃ q => ?_) fun _ x => x))
 exact WC.holding (WC.of q)
end
end
section
noncomputable def isAttr (e : Expr) : Bool := match e with
 | .Attribute _ _ _ => true
 | _ => false
noncomputable def call0 (e : Expr) : Option Str := match e with
 | .Call f es kw _ => (match f with
   | .Name c _ => if es.isEmpty && kw.isEmpty then some c else none
   | _ => none)
 | _ => none
theorem call0_i {e : Expr} {c : Str} (h : call0 e = some c) : ∃ np cp, e = .Call (.Name c np) [] [] cp := by
 cases e with
 | Call f es kw cp => cases f with
  | Name x np =>
   cases es with
   | cons _ _ => exact none_some h
   | nil => cases kw with
    | cons _ _ => exact none_some h
    | nil => exact ⟨np, cp, by rw [Option.some.inj h]⟩
  | _ => exact none_some h
 | _ => exact none_some h
noncomputable def fnT (T : Tabs) (x : Str) (K : Addr → Prop) : Prop := match T.gl x with
 | .fn f => K f
 | _ => False
noncomputable def clsT (T : Tabs) (x : Str) (K : Addr → Prop) : Prop := match T.gl x with
 | .cls f => K f
 | _ => False
theorem fnT_i {T : Tabs} {x : Str} {K : Addr → Prop} (h : fnT T x K) : ∃ f, T.gl x = .fn f ∧ K f := by
 unfold fnT at h
 cases q : T.gl x with
 | fn f => rw [q] at h; exact ⟨f, rfl, h⟩
 | _ => rw [q] at h; exact False.elim h
theorem clsT_i {T : Tabs} {x : Str} {K : Addr → Prop} (h : clsT T x K) : ∃ f, T.gl x = .cls f ∧ K f := by
 unfold clsT at h
 cases q : T.gl x with
 | cls f => rw [q] at h; exact ⟨f, rfl, h⟩
 | _ => rw [q] at h; exact False.elim h
noncomputable def callO (e : Expr) (K : Expr → List Expr → List Keyword → Pos → Prop) (other : Prop) : Prop := match e with
 | .Call f es kw cp => K f es kw cp
 | _ => other
theorem callO_e {e : Expr} {K : Expr → List Expr → List Keyword → Pos → Prop} {other : Prop} {P : Expr → Prop} (h : callO e K other) (k : ∀ f es kw cp, K f es kw cp → P (.Call f es kw cp)) (k' : other → P e) : P e := by
 cases e with
 | Call f es kw cp => exact k f es kw cp h
 | _ => exact k' h
noncomputable def attrP (e : Expr) (K : Expr → Str → Pos → Prop) : Prop := match e with
 | .Attribute o x p => K o x p
 | _ => False
@[elab_as_elim] theorem attrP_e {e : Expr} {K : Expr → Str → Pos → Prop} {P : Expr → Prop} (h : attrP e K) (k : ∀ o x p, K o x p → P (.Attribute o x p)) : P e := by
 cases e with
 | Attribute o x p => exact k o x p h
 | _ => exact False.elim h
noncomputable def exprC (T : Tabs) (ΓC : Addr → Ctr) (ev : Expr → QV → DS → Prop) (nc : NC) (e : Expr) (N : DS → Prop) (st : DS) (other : Prop) : Prop :=
 callO e (fun f es kw cp => chk kw.isEmpty (brS (isAttr f)
  (attrP f fun o m ap => chk (methForm o ap cp es) (brS (isAttr o && m == ofString "extend") (attrP o fun o x _ => chk (baseOk o) (ev o (extT T x (evls ev es) N) st))
   (ev o (fun v st => methT T.mt ΓC NoX m v (evls ev es) (fun v st => noneK v (N st)) st) st)))
  (nameP f fun x => chk (noStar es && isGlob nc x) (fnT T x fun f => evls ev es (fun vs st => callV (ΓC f) vs st (fun v st => noneK v (N st)) NoX) st)))) other
noncomputable def asgC (T : Tabs) (ΓC : Addr → Ctr) (ev : Expr → QV → DS → Prop) (nc : NC) (tgt : Expr) (c : Str) (N : DS → Prop) (st : DS) : Prop :=
 brS (isAttr tgt) (attrP tgt fun o x _ => chk (c == ofString "bytearray" && isGlob nc (ofString "bytearray")) (ev o (initT T x N) st))
  (nameP tgt fun x => chk (storable nc.sc x && isGlob nc c) (clsT T c fun fI => makeV (ΓC fI) c [] st (fun v st => N (st.set x v)) NoX))
noncomputable def exStepC (T : Tabs) (Γ ΓC : Addr → Ctr) (n : Nat) (bb : Bool) (nc : NC) (exsC : List Stmt → (DS → Prop) → QR → DS → Prop) (s : Stmt) (N : DS → Prop) (Rt : QR) (st : DS) : Prop := match s with
 | .Expr e p => exprC T ΓC ((lv T Γ NoX n).ev nc) nc e N st (exStep T Γ n bb nc (exs T Γ n bb nc 5) (.Expr e p) N Rt NoX st)
 | .Assign ts e p => (match call0 e with
   | some c => oneL ts fun tgt => asgC T ΓC ((lv T Γ NoX n).ev nc) nc tgt c N st
   | none => exStep T Γ n bb nc (exs T Γ n bb nc 5) (.Assign ts e p) N Rt NoX st)
 | .For tgt it body orelse _ => nameP tgt fun x => chk (orelse.isEmpty && (storable nc.sc x && !isSet it)) <| evIter ((lv T Γ NoX n).ev nc) nc T (.Name x default) it (fun bs st => loopW (fun N Rt st => exsC body N Rt st) bs N Rt st) st
 | s => exStep T Γ n bb nc (exs T Γ n bb nc 5) s N Rt NoX st
noncomputable def exsC (T : Tabs) (Γ ΓC : Addr → Ctr) (n : Nat) (bb : Bool) (nc : NC) : Nat → List Stmt → (DS → Prop) → QR → DS → Prop
 | 0, _, _, _, _ => False
 | k + 1, ss, N, Rt, st => exl (fun s N Rt _ st => exStepC T Γ ΓC n bb nc (exsC T Γ ΓC n bb nc k) s N Rt st) ss N Rt NoX st
section
variable {T : Tabs} {ΓC : Addr → Ctr} {Rt : QR} {bb : Bool} {n : Nat}
theorem ws_exprC {ev : Expr → QV → DS → Prop} {e : Expr} {p : Pos} {other : Prop} (C : CxOk G cx) (O : AOk cx A (r + 1)) (hT : TabsOk G.K T) (hΓC : ∀ f, SoundFC G r f (ΓC f))
  (H : ∀ ex, SdE G cx A ex NoX ⟨cx.envF.scope, none⟩ cx.envF ev) (ho : other → WSC G cx A ex (exec (.Expr e p) cx.envF) N Rt g ad st) (h : exprC T ΓC ev ⟨cx.envF.scope, none⟩ e N st other) : WSC G cx A ex (exec (.Expr e p) cx.envF) N Rt g ad st := by
 refine callO_e (P := fun e => WSC G cx A ex (exec (.Expr e p) cx.envF) N Rt g ad st) h (fun f es kw cp h => ?_) ho
 refine chk_e h fun hk h => ?_
 refine nil_e (l := kw) hk ?_
 cases ha : isAttr f with
 | false =>
  refine nameP_e (brS_f h ha) fun x np h => ?_
  refine chk_e h fun hc h => ?_
  have q := and_true hc
  have h12 := isGlob_of q.2
  obtain ⟨f, hf, h⟩ := fnT_i h
  exact wsC_Expr C rfl (rc_CallF C O h12.1 h12.2 (hT.fn _ _ hf).1 (hT.fn _ _ hf).2 (hΓC f) q.1 (sd_list (H ex) q.1)) h
 | true =>
  refine attrP_e (brS_t h ha) fun o m ap h => ?_
  refine chk_e h fun hf h => ?_
  cases hb : (isAttr o && m == ofString "extend") with
  | true =>
   have em := eq_of_beq (and_true hb).2
   subst em
   revert hf
   refine attrP_e (brS_t h hb) fun o x ap' h hf => ?_
   exact chk_e h fun hb h => wsC_ext C O hT hb hf (H ex o) (fun ex => sd_list (H ex) (methForm_star hf)) h
  | false => exact wsC_Expr C rfl (rc_CallM hT.mt C O hΓC hf (H ex o) (sd_list (H ex) (methForm_star hf))) (brS_f h hb)
theorem ws_asgC {ev : Expr → QV → DS → Prop} {tgt : Expr} {c : Str} {np cp p : Pos} (C : CxOk G cx) (O : AOk cx A (r + 1)) (hT : TabsOk G.K T) (hB : nsIn G.K mainGlobals (ofString "bytearray") = some none) (hΓC : ∀ f, SoundFC G r f (ΓC f))
  (H : ∀ ex, SdE G cx A ex NoX ⟨cx.envF.scope, none⟩ cx.envF ev) (h : asgC T ΓC ev ⟨cx.envF.scope, none⟩ tgt c N st) : WSC G cx A ex (exec (.Assign [tgt] (.Call (.Name c np) [] [] cp) p) cx.envF) N Rt g ad st := by
 cases ha : isAttr tgt with
 | true =>
  refine attrP_e (brS_t h ha) fun o x ap h => ?_
  refine chk_e h fun hc h => ?_
  have q := and_true hc
  exact (eq_of_beq q.1).symm ▸ wsC_init C O.down hT (isGlob_of q.2).1 hB (fun ex => H ex o) h
 | false =>
  refine nameP_e (brS_f h ha) fun x px h => ?_
  refine chk_e h fun hc h => ?_
  have q := and_true hc
  have h12 := isGlob_of q.2
  obtain ⟨fI, hf, h⟩ := clsT_i h
  obtain ⟨Ca, a1, a2, a3, a4, a5⟩ := hT.cls _ _ hf
  exact wsC_AssignName C rfl q.1 (rc_CallC C O h12.1 h12.2 a1 a2 a3 a4 a5 (hΓC fI)) h
theorem exC_step {nx : List Stmt → (DS → Prop) → QR → DS → Prop} (C : CxOk G cx) (O : AOk cx A (r + 1)) (hT : TabsOk G.K T) (hB : nsIn G.K mainGlobals (ofString "bytearray") = some none) (hΓ : ∀ f, SoundF G r f (Γ f)) (hΓC : ∀ f, SoundFC G r f (ΓC f)) (hD : bb = false → cx.D = [])
  (hx : ∀ ss N Rt ex g ad st, nx ss N Rt st → WSC G cx A ex (execs ss cx.envF) N Rt g ad st) {s : Stmt} (h : exStepC T Γ ΓC n bb ⟨cx.envF.scope, none⟩ nx s N Rt st) : WSC G cx A ex (exec s cx.envF) N Rt g ad st := by
 have H : ∀ ex, SdE G cx A ex NoX ⟨cx.envF.scope, none⟩ cx.envF ((lv T Γ NoX n).ev ⟨cx.envF.scope, none⟩) := fun ex e => (lv_sound C O hT hΓ n).1 ex _ _ e
 have other : ∀ s, exStep T Γ n bb ⟨cx.envF.scope, none⟩ (exs T Γ n bb ⟨cx.envF.scope, none⟩ 5) s N Rt NoX st → WSC G cx A ex (exec s cx.envF) N Rt g ad st := fun s h => .of (ex_step C O hT hΓ hD (exs_sound C O hT hΓ hD 5) h)
 cases s with
 | Expr e p => exact ws_exprC C O hT hΓC H (other _) h
 | Assign ts e p =>
  replace h : (match call0 e with
   | some c => oneL ts fun tgt => asgC T ΓC ((lv T Γ NoX n).ev ⟨cx.envF.scope, none⟩) ⟨cx.envF.scope, none⟩ tgt c N st
   | none => exStep T Γ n bb ⟨cx.envF.scope, none⟩ (exs T Γ n bb ⟨cx.envF.scope, none⟩ 5) (.Assign ts e p) N Rt NoX st) := h
  cases hc : call0 e with
  | none => rw [hc] at h; exact other _ h
  | some c =>
   rw [hc] at h
   obtain ⟨np, cp, e'⟩ := call0_i hc
   exact e' ▸ oneL_e h fun tgt h => ws_asgC C O hT hB hΓC H h
 | For tgt it body orelse p =>
  refine nameP_e (e := tgt) h fun x px h => chk_e h fun hc h => ?_
  have q := and_true hc
  have q1 := and_true q.2
  exact nil_e (l := orelse) q.1 (wsC_For C O.down q1.1 (not_true q1.2) (sit_of (target := .Name x px) C O.down hT (H ex)) (fun ex' g' ad' st' N Rt q => hx body N Rt ex' g' ad' st' q) h)
 | _ => exact other _ h
theorem exsC_sound (C : CxOk G cx) (O : AOk cx A (r + 1)) (hT : TabsOk G.K T) (hB : nsIn G.K mainGlobals (ofString "bytearray") = some none) (hΓ : ∀ f, SoundF G r f (Γ f)) (hΓC : ∀ f, SoundFC G r f (ΓC f)) (hD : bb = false → cx.D = []) :
  ∀ k ss N Rt ex g ad st, exsC T Γ ΓC n bb ⟨cx.envF.scope, none⟩ k ss N Rt st → WSC G cx A ex (execs ss cx.envF) N Rt g ad st
 | 0, ss, N, Rt, ex, g, ad, st, h => h.elim
 | k + 1, ss, N, Rt, ex, g, ad, st, h => by
  have ih := exsC_sound C O hT hB hΓ hΓC hD k
  have go : ∀ ss N Rt ex g ad st, exl (fun s N Rt _ st => exStepC T Γ ΓC n bb ⟨cx.envF.scope, none⟩ (exsC T Γ ΓC n bb ⟨cx.envF.scope, none⟩ k) s N Rt st) ss N Rt NoX st → WSC G cx A ex (execs ss cx.envF) N Rt g ad st := by
   intro ss
   induction ss with
   | nil => intro N Rt ex g ad st h; exact wsC_nil h
   | cons s ss ihs => intro N Rt ex g ad st h; exact wsC_cons (exC_step C O hT hB hΓ hΓC hD ih h) fun g' ad' st' q => ihs N Rt ex g' ad' st' q
  exact go ss N Rt ex g ad st h
end
end
noncomputable def bdC (s : Stmt) (Γ ΓC : Addr → Ctr) (names : List String) (vs : List V) (m : Option M) (Q : V → Option M → Prop) : Prop :=
 exsC theT Γ ΓC 40 m.isSome ⟨fS s, none⟩ 20 (fB s) (fun st => Q .none (mOf m.isSome st)) (fun v o => match o with | some st => Q v (mOf m.isSome st) | none => m.isNone = true ∧ Q v none) ⟨(names.map ofString).zip vs, m.toList⟩
theorem step0W {f : Addr} {φ : Ctr} (hG : G.K = theK P) (s : Stmt) (qual : String) (dV pm cdv : Value) (names : List String)
  (ho : (theK P).lookup f = some ⟨.type "function", none, .func (fD s qual dV pm cdv), #[]⟩) (hcd : codeIn (theK P) cdv (ofString qual) = true) (hs : fnChk (fS s) (names.map ofString) = true) {n : Nat} (hn : names.length = n)
  (hb : PB P (fD s qual dV pm cdv) names n []) (hlen : ∀ vs m Q, φ vs m Q NoX → vs.length = names.length)
  (hw : ∀ (cx : Cx) (A : Around) (g : PH) (b : Option Bor) (vs : List V) (Q : V → Option M → Prop), CxOk G cx → AOk cx A r → cx.envF.scope = fS s → cx.D = borD b → φ vs (b.map (·.1)) Q NoX →
   WSC G cx A [] (execs (fB s) cx.envF) (fun st => Q .none (mOf b.isSome st)) (fun v o => match o with | some st => Q v (mOf b.isSome st) | none => b = none ∧ Q v none) g (borA b) ⟨(names.map ofString).zip vs, (b.map (·.1)).toList⟩) : SoundFC G (r + 1) f φ := by
 subst hn
 unfold fnChk at hs
 simp only [Bool.and_eq_true, Bool.not_eq_true', beq_iff_eq, all_eq_true, Bool.or_eq_true] at hs
 obtain ⟨⟨⟨⟨⟨h1, h2⟩, h3⟩, h4⟩, h5⟩, h6⟩ := hs
 refine fn_soundC (by rw [hG]; exact ho) rfl (by rw [hG]; exact hcd) h1 h2 h3 (nDup_nodup h4) (fun vs ls => ls = (names.map ofString).zip vs) ?_ ?_
 ·intro g ad vs vals sh Q m gb KI rs hq
  have hl := hlen vs m Q hq
  have e : (names.map ofString).length = vals.length := by rw [← rs.len, length_map]; exact hl.symm
  have hB := kp_binds KI (fun S => by rw [hG]; exact hb vals (by rw [← e, length_map]) S)
  rw [append_nil] at hB
  refine ⟨_, _, rfl, Pairs.zip rs, hB, by rw [zip_fst e]; exact nDup_nodup h5, fun n x hx => ?_⟩
  have hx' := (List.of_mem_zip hx).1
  rcases h6 _ hx' with q | q
  ·exact .inl q
  ·exact .inr ⟨q, cellsFrom_some q⟩
 ·rintro cx A g b vs ls Q C O hsc hD rfl hq
  exact hw cx A g b vs Q C O hsc hD hq
theorem step0C {Γ ΓC : Addr → Ctr} {f : Addr} {φ : Ctr} (hG : G.K = theK P) (hΓ : ∀ f, SoundF G r f (Γ f)) (hΓC : ∀ f, SoundFC G r f (ΓC f)) (s : Stmt) (qual : String) (dV pm cdv : Value) (names : List String)
  (ho : (theK P).lookup f = some ⟨.type "function", none, .func (fD s qual dV pm cdv), #[]⟩) (hcd : codeIn (theK P) cdv (ofString qual) = true) (hs : fnChk (fS s) (names.map ofString) = true) {n : Nat} (hn : names.length = n)
  (hb : PB P (fD s qual dV pm cdv) names n []) (hφ : ∀ vs m Q, φ vs m Q NoX → vs.length = names.length ∧ bdC s Γ ΓC names vs m Q) : SoundFC G (r + 2) f φ := by
 refine step0W (r := r + 1) hG s qual dV pm cdv names ho hcd hs hn hb (fun vs m Q h => (hφ vs m Q h).1) fun cx A g b vs Q C O hsc hD hq => ?_
 have hP := (hφ vs _ Q hq).2
 have hbb : (b.map (·.1)).isSome = b.isSome := by cases b <;> rfl
 unfold bdC at hP
 rw [hbb, ← hsc] at hP
 have key := exsC_sound (r := r) C O (hG ▸ tabs_ok P) (by rw [hG]; kernel_rfl) hΓ hΓC (fun q => by rw [hD]; cases b with | none => rfl | some _ => cases q) 20 (fB s) _ _ [] g (borA b) _ hP
 intro s' Q' R hg kn kr kl
 refine key s' Q' R hg kn kr (fun v val g' s' S rv q I => kl v val g' s' S rv ?_ I)
 refine ⟨?_, q.2⟩
 cases b with
 | none => rfl
 | some _ => cases q.1
noncomputable def k92 : Ctr := fun vs m Q X => ∃ c, vs = [.cel 0] ∧ m = some (.inst c []) ∧ c = ofString "Sink" ∧ Q .none (some (sinkM #[]))
theorem k92_mk (c) (e0 : vs = [.cel 0]) (e1 : m = some (.inst c [])) (e2 : c = ofString "Sink") (e3 : Q .none (some (sinkM #[]))) : k92 vs m Q X := ⟨c, e0, e1, e2, e3⟩
noncomputable def k99 : Ctr := fun vs m Q X => ∃ b a n, vs = [.cel 0, .int a, .int n] ∧ m = some (sinkM b) ∧ (0 ≤ n ∧ n ≤ 8) ∧ (0 ≤ a ∧ a < 256 ^ n.toNat) ∧ b.size ≤ 90000 ∧ Q .none (some (sinkM (b ++ byteArr (digitsL a n.toNat))))
theorem k99_mk (b) (a) (n) (e0 : vs = [.cel 0, .int a, .int n]) (e1 : m = some (sinkM b)) (e2 : (0 ≤ n ∧ n ≤ 8)) (e3 : (0 ≤ a ∧ a < 256 ^ n.toNat)) (e4 : b.size ≤ 90000) (e5 : Q .none (some (sinkM (b ++ byteArr (digitsL a n.toNat))))) : k99 vs m Q X := ⟨b, a, n, e0, e1, e2, e3, e4, e5⟩
noncomputable def k113 : Ctr := fun vs m Q X => ∃ b, ∃ s : Str, vs = [.cel 0, .str s] ∧ m = some (sinkM b) ∧ s.length ≤ 255 ∧ (∀ c ∈ s.cps.toList, 32 ≤ c ∧ c < 127) ∧ b.size ≤ 80000 ∧ Q .none (some (sinkM (b ++ byteArr (digitsL s.length 1) ++ byteArr (s.cps.toList.map fun c : Nat => (c : Int)))))
theorem k113_mk (b) (s : Str) (e0 : vs = [.cel 0, .str s]) (e1 : m = some (sinkM b)) (e2 : s.length ≤ 255) (e3 : (∀ c ∈ s.cps.toList, 32 ≤ c ∧ c < 127)) (e4 : b.size ≤ 80000) (e5 : Q .none (some (sinkM (b ++ byteArr (digitsL s.length 1) ++ byteArr (s.cps.toList.map fun c : Nat => (c : Int)))))) : k113 vs m Q X := ⟨b, s, e0, e1, e2, e3, e4, e5⟩
noncomputable def k120 : Ctr := fun vs m Q X => ∃ b, vs = [.cel 0] ∧ m = some (sinkM b) ∧ b.size ≤ 16777216 ∧ Q (.bytes b) (some (sinkM b))
theorem k120_mk (b) (e0 : vs = [.cel 0]) (e1 : m = some (sinkM b)) (e2 : b.size ≤ 16777216) (e3 : Q (.bytes b) (some (sinkM b))) : k120 vs m Q X := ⟨b, e0, e1, e2, e3⟩
theorem byteArr_len (l : List Int) : (byteArr l).size = l.length := by simp [byteArr]
theorem dl1 (a : Int) : (byteArr (digitsL a 1)).size = 1 := by rw [byteArr_len, digitsL, length_map, length_range]
theorem dl4 (a : Int) : (byteArr (digitsL a 4)).size = 4 := by rw [byteArr_len, digitsL, length_map, length_range]
theorem sz_le {b c : Array UInt8} {m k : Nat} (h : b.size ≤ m) (e : c.size = k) : (b ++ c).size ≤ m + k := by rw [Array.size_append, e]; exact Nat.add_le_add_right h k
theorem sz_le' {b : Array UInt8} {m m' : Nat} (h : b.size ≤ m) (e : Nat.ble m m' = true) : b.size ≤ m' := Nat.le_trans h (Nat.le_of_ble_eq_true e)
theorem sz_le2 {b c : Array UInt8} {m k : Nat} (h : b.size ≤ m) (e : c.size ≤ k) : (b ++ c).size ≤ m + k := by rw [Array.size_append]; exact Nat.add_le_add h e
theorem b92 {Γ ΓC : Addr → Ctr} (h : Q .none (some (sinkM #[]))) : bdC (cmN 9 0) Γ ΓC ["self"] [.cel 0] (some (.inst (ofString "Sink") [])) Q := by
 exact h
theorem b99 {Γ ΓC : Addr → Ctr} {b : Array UInt8} {a n : Int} (h68 : Γ 68 = k68) (hn : 0 ≤ n ∧ n ≤ 8) (ha : 0 ≤ a ∧ a < 256 ^ n.toNat) (hb : b.size ≤ 90000) (h : Q .none (some (sinkM (b ++ byteArr (digitsL a n.toNat))))) : bdC (cmN 9 1) Γ ΓC ["self", "number", "size"] [.cel 0, .int a, .int n] (some (sinkM b)) Q := by
 refine ca h68 (k68_mk a n rfl rfl hn ha ?_)
 have e1 : (digitsL a n.toNat).length = n.toNat := by rw [digitsL, length_map, length_range]
 refine chk_mk (Nat.ble_eq_true_of_le (by rw [Array.size_append, byteArr_len, e1]; omega)) ?_
 exact h
theorem b113 {Γ ΓC : Addr → Ctr} {b : Array UInt8} {s : Str} (h73 : Γ 73 = k73) (h99 : ΓC 99 = k99) (hs : s.length ≤ 255) (hc : ∀ c ∈ s.cps.toList, 32 ≤ c ∧ c < 127) (hb : b.size ≤ 80000)
  (h : Q .none (some (sinkM (b ++ byteArr (digitsL s.length 1) ++ byteArr (s.cps.toList.map fun c : Nat => (c : Int)))))) : bdC (cmN 9 3) Γ ΓC ["self", "text"] [.cel 0, .str s] (some (sinkM b)) Q := by
 have nl : s.cps.toList.length = s.length := Array.length_toList
 have e0 : (byteArr (s.cps.toList.map fun c : Nat => (c : Int))).size = s.length := by rw [byteArr_len, length_map, nl]
 refine ca h73 (k73_mk s rfl rfl hs hc ?_)
 refine chk_le_mk (by rw [e0]; unfold lstLine; omega) ?_
 refine ca h99 (k99_mk b _ _ rfl rfl (by decide) ⟨Int.natCast_nonneg _, by rw [e0]; show (s.length : Int) < 256; omega⟩ (sz_le' hb rfl) ?_)
 refine chk_le_mk (sz_le' (sz_le2 (sz_le hb (dl1 _)) (e0 ▸ hs)) rfl) ?_
 have h' : Q .none (some (sinkM (b ++ byteArr (digitsL (byteArr (s.cps.toList.map fun c : Nat => (c : Int))).size 1) ++ byteArr (s.cps.toList.map fun c : Nat => (c : Int))))) := by rw [e0]; exact h
 exact h'
noncomputable def k290d : Ctr := fun vs m Q X => ∃ b g, vs = [.cel 0, dskN g] ∧ m = some (sinkM b) ∧ okG g ∧ b.size ≤ 80000 ∧ Q .none (some (sinkM (b ++ byteArr (encDsk g))))
theorem k290d_mk (b) (g) (e0 : vs = [.cel 0, dskN g]) (e1 : m = some (sinkM b)) (e2 : okG g) (e3 : b.size ≤ 80000) (e4 : Q .none (some (sinkM (b ++ byteArr (encDsk g))))) : k290d vs m Q X := ⟨b, g, e0, e1, e2, e3, e4⟩
theorem byteArr_app (a b : List Int) : byteArr a ++ byteArr b = byteArr (a ++ b) := by simp [byteArr]
theorem dig1 {a : Int} (h : 0 ≤ a ∧ a < 256) : digitsL a 1 = [a] := by
 have : (a.fdiv (256 ^ 0)).fmod 256 = a := by
  rw [Int.pow_zero, Int.fdiv_one]
  exact Int.fmod_eq_of_lt h.1 h.2
 exact congrArg (fun z => [z]) this
theorem b290d {Γ ΓC : Addr → Ctr} {b : Array UInt8} {g : Int} (h99 : ΓC 99 = k99) (h239 : Γ 239 = k239) (hg : okG g) (hb : b.size ≤ 80000) (h : Q .none (some (sinkM (b ++ byteArr (encDsk g))))) : bdC (stN 27) Γ ΓC ["sink", "node"] [.cel 0, dskN g] (some (sinkM b)) Q := by
 refine ca h239 ?_
 refine ⟨rfl, ?_⟩
 refine ca h99 (k99_mk b 0 1 rfl rfl (by decide) (by decide) (sz_le' hb rfl) ?_)
 refine ca h99 (k99_mk _ g 4 rfl rfl (by decide) hg (sz_le' (sz_le hb (dl1 _)) rfl) ?_)
 refine ca h99 (k99_mk _ 0 1 rfl rfl (by decide) (by decide) (sz_le' (sz_le (sz_le hb (dl1 _)) (dl4 _)) rfl) ?_)
 refine ca h99 (k99_mk _ 0 1 rfl rfl (by decide) (by decide) (sz_le' (sz_le (sz_le (sz_le hb (dl1 _)) (dl4 _)) (dl1 _)) rfl) ?_)
 refine ⟨?_⟩
 have e : b ++ byteArr (digitsL 0 1) ++ byteArr (digitsL g 4) ++ byteArr (digitsL 0 1) ++ byteArr (digitsL 0 1) = b ++ byteArr (encDsk g) := by
  simp only [Array.append_assoc, byteArr_app, dig1 (a := 0) (by decide), encDsk, dg]
  rfl
 rw [← e] at h
 exact h
noncomputable def okN (n : Nd) : Prop := n.s ≤ 2 ∧ okG n.g ∧ (0 ≤ n.p ∧ n.p < 256) ∧ n.cs.length ≤ 8 ∧ ∀ g ∈ n.cs, okG g
noncomputable def encN (n : Nd) : List Int := [(n.s : Int)] ++ digitsL n.g 4 ++ [n.p, (n.cs.length : Int)] ++ n.cs.flatMap encDsk
theorem encN_len {n : Nd} (h : okN n) : (encN n).length ≤ 63 := by
 have := h.2.2.2.1
 have l : ∀ a k, (digitsL a k).length = k := fun a k => by rw [digitsL, length_map, length_range]
 simp only [encN, length_append, l, flatDsk_len, length_cons, length_nil]; omega
noncomputable def k290 : Ctr := fun vs m Q X => ∃ b n, vs = [.cel 0, nodeV n] ∧ m = some (sinkM b) ∧ okN n ∧ b.size ≤ 70000 ∧ Q .none (some (sinkM (b ++ byteArr (encN n))))
theorem k290_mk (b) (n) (e0 : vs = [.cel 0, nodeV n]) (e1 : m = some (sinkM b)) (e2 : okN n) (e3 : b.size ≤ 70000) (e4 : Q .none (some (sinkM (b ++ byteArr (encN n))))) : k290 vs m Q X := ⟨b, n, e0, e1, e2, e3, e4⟩
theorem l290 {Γ ΓC : Addr → Ctr} {Z : Array UInt8} {n : Nd} {Rt : QR} (h290 : ΓC 290 = k290d) (hn : okN n) (hz : Z.size ≤ 70010) (h : ∀ l, N ⟨l, [sinkM (Z ++ byteArr (n.cs.flatMap encDsk))]⟩) : exsC theT Γ ΓC 40 true ⟨fS (stN 27), none⟩ 20 ((fB (stN 27)).drop 4) N Rt ⟨[(ofString "sink", .cel 0), (ofString "node", nodeV n)], [sinkM Z]⟩ := by
 refine lmm (loop_pre (fun pre => ⟨[(ofString "sink", .cel 0), (ofString "node", nodeV n), (ofString "child", dskN (pre.getLastD 0))], [sinkM (Z ++ byteArr (pre.flatMap encDsk))]⟩) (fun pre x post ep N hN => ?_) (fun x => ?_) (fun ep => ?_) (fun _ => h _))
 ·have lx : pre.length ≤ 8 := Nat.le_trans (ep ▸ (length_append (as := pre) (bs := x :: post)).symm ▸ Nat.le_add_right _ _) hn.2.2.2.1
  have lq : (byteArr (pre.flatMap encDsk)).size ≤ 56 := by rw [byteArr_len, flatDsk_len]; omega
  rw [flatMap_append, flatMap_cons, flatMap_nil, append_nil, lastD_app, ← byteArr_app, ← Array.append_assoc] at hN
  refine ca h290 (k290d_mk _ x rfl rfl (hn.2.2.2.2 x (ep ▸ mem_append_right pre (List.mem_cons_self ..))) (by rw [Array.size_append]; exact Nat.le_trans (Nat.add_le_add hz lq) (by decide)) ?_)
  exact hN
 ·rw [show byteArr (List.flatMap encDsk []) = #[] from rfl, Array.append_empty]
  rfl
 ·have := h [(ofString "sink", .cel 0), (ofString "node", nodeV n)]
  rw [ep, show byteArr (List.flatMap encDsk []) = #[] from rfl, Array.append_empty] at this
  exact this
theorem le2 {s : Nat} (h : s ≤ 2) : s = 0 ∨ s = 1 ∨ s = 2 := by omega
theorem encN_eq {b : Array UInt8} {n : Nd} (hn : okN n) : b ++ byteArr (digitsL n.s 1) ++ byteArr (digitsL n.g 4) ++ byteArr (digitsL n.p 1) ++ byteArr (digitsL n.cs.length 1) ++ byteArr (n.cs.flatMap encDsk) = b ++ byteArr (encN n) := by
 have := hn.1
 have := hn.2.2.2.1
 rw [dig1 hn.2.2.1, dig1 (a := (n.cs.length : Int)) ⟨by omega, by omega⟩, dig1 (a := (n.s : Int)) ⟨by omega, by omega⟩]
 rw [Array.append_assoc, byteArr_app, Array.append_assoc, byteArr_app, Array.append_assoc, byteArr_app, Array.append_assoc, byteArr_app]
 rw [encN, append_assoc, append_assoc]
 rfl
theorem t290 {Γ ΓC : Addr → Ctr} {Z : Array UInt8} {n : Nd} {Rt : QR} (h99 : ΓC 99 = k99) (h290 : ΓC 290 = k290d) (hn : okN n) (hz : Z.size ≤ 70001) (h : ∀ l, N ⟨l, [sinkM (Z ++ byteArr (digitsL n.g 4) ++ byteArr (digitsL n.p 1) ++ byteArr (digitsL n.cs.length 1) ++ byteArr (n.cs.flatMap encDsk))]⟩) : exsC theT Γ ΓC 40 true ⟨fS (stN 27), none⟩ 20 ((fB (stN 27)).drop 1) N Rt ⟨[(ofString "sink", .cel 0), (ofString "node", nodeV n)], [sinkM Z]⟩ := by
 have hc := hn.2.2.2.1
 refine ca h99 (k99_mk _ n.g 4 rfl rfl (by decide) hn.2.1 (sz_le' hz rfl) ?_)
 refine ca h99 (k99_mk _ n.p 1 rfl rfl (by decide) hn.2.2.1 (sz_le' (sz_le hz (dl4 _)) rfl) ?_)
 have e : (n.cs.map dskN).length = n.cs.length := length_map _
 rw [← e] at h hc
 refine cL ?_ (Nat.le_trans hc (by decide))
 refine ca h99 (k99_mk _ ((n.cs.map dskN).length : Int) 1 rfl rfl (by decide) ⟨Int.natCast_nonneg _, by show ((n.cs.map dskN).length : Int) < 256; omega⟩ (sz_le' (sz_le (sz_le hz (dl4 _)) (dl1 _)) rfl) ?_)
 exact l290 h290 hn (sz_le' (sz_le (sz_le (sz_le hz (dl4 _)) (dl1 _)) (dl1 _)) rfl) h
theorem b290s {Γ ΓC : Addr → Ctr} {b : Array UInt8} {n : Nd} (h99 : ΓC 99 = k99) (h290 : ΓC 290 = k290d) (h239 : Γ 239 = k239) (hn : okN n) (hb : b.size ≤ 70000) (h : Q .none (some (sinkM (b ++ byteArr (encN n))))) : bdC (stN 27) Γ ΓC ["sink", "node"] [.cel 0, nodeV n] (some (sinkM b)) Q := by
 rw [← encN_eq hn] at h
 cases n with
 | mk s g p cs =>
  have := le2 hn.1
  rcases this with rfl | rfl | rfl
  all_goals
   refine ca h239 ?_
   refine ⟨rfl, ?_⟩
   refine ca h99 (k99_mk b _ 1 rfl rfl (by decide) (by decide) (sz_le' hb rfl) ?_)
   exact t290 h99 h290 hn (sz_le hb (dl1 _)) (fun _ => h)
noncomputable def okC (c : Cfg) : Prop := c.name.length ≤ 255 ∧ (∀ z ∈ c.name.cps.toList, 32 ≤ z ∧ z < 127) ∧ (0 ≤ c.g ∧ c.g < 2 ^ 64) ∧ (0 ≤ c.ed ∧ c.ed < 2 ^ 32) ∧ c.tops.length ≤ 3 ∧ ∀ n ∈ c.tops, okN n
noncomputable def encT (c : Cfg) : List Int := digitsL 1953654117 4 ++ ([1] ++ ([(c.name.length : Int)] ++ ((c.name.cps.toList.map fun z : Nat => (z : Int)) ++ (digitsL c.g 8 ++ (digitsL c.ed 4 ++ [(c.tops.length : Int)])))))
noncomputable def encC (c : Cfg) : List Int := encT c ++ c.tops.flatMap encN
noncomputable def k297 : Ctr := fun vs m Q X => ∃ c, vs = [cfgV c] ∧ m = none ∧ okC c ∧ Q (.bytes (byteArr (encC c))) none
theorem k297_mk (c) (e0 : vs = [cfgV c]) (e1 : m = none) (e2 : okC c) (e3 : Q (.bytes (byteArr (encC c))) none) : k297 vs m Q X := ⟨c, e0, e1, e2, e3⟩
theorem flatN_le {ns : List Nd} (hn : ∀ n ∈ ns, okN n) : (ns.flatMap encN).length ≤ 63 * ns.length := by
 induction ns with
 | nil => exact Nat.le_refl _
 | cons n ns ih =>
  rw [flatMap_cons, length_append, length_cons, Nat.mul_succ, Nat.add_comm]
  exact Nat.add_le_add (ih fun m hm => hn m (.tail _ hm)) (encN_len (hn n (.head _)))
theorem flatN_sz {ns : List Nd} (hn : ∀ n ∈ ns, okN n) (hl : ns.length ≤ 3) : (byteArr (ns.flatMap encN)).size ≤ 189 := by
 rw [byteArr_len]; exact Nat.le_trans (flatN_le hn) (Nat.mul_le_mul_left 63 hl)
theorem pre_le {α : Type} {pre post cs : List α} {x : α} {m : Nat} (e : pre ++ x :: post = cs) (h : cs.length ≤ m) : pre.length ≤ m := by
 subst e; rw [length_append] at h; exact Nat.le_trans (Nat.le_add_right _ _) h
theorem l297 {Γ ΓC : Addr → Ctr} {H : Array UInt8} {c : Cfg} {Rt : QR} (h290 : ΓC 290 = k290) (h120 : Γ 120 = k120) (hc : okC c) (hz : H.size ≤ 300) (h : ∀ l mu, Rt (.bytes (H ++ byteArr (c.tops.flatMap encN))) (some ⟨l, mu⟩)) : exsC theT Γ ΓC 40 false ⟨fS (stN 28), none⟩ 20 ((fB (stN 28)).drop 7) N Rt ⟨[(ofString "config", cfgV c), (ofString "sink", .cel 0)], [sinkM H]⟩ := by
 refine lmm (loop_pre (fun pre => ⟨[(ofString "config", cfgV c), (ofString "sink", .cel 0), (ofString "node", nodeV (pre.getLastD ⟨0, 0, 0, []⟩))], [sinkM (H ++ byteArr (pre.flatMap encN))]⟩) (fun pre x post ep N hN => ?_) (fun x => ?_) (fun ep => ?_) (fun _ => ?_))
 ·rw [flatMap_append, flatMap_cons, flatMap_nil, append_nil, lastD_app, ← byteArr_app, ← Array.append_assoc] at hN
  exact ca h290 (k290_mk _ x rfl rfl (hc.2.2.2.2.2 x (ep ▸ mem_append_right pre (List.mem_cons_self ..))) (sz_le' (sz_le2 hz (flatN_sz (fun n hn => hc.2.2.2.2.2 n (ep ▸ mem_append_left _ hn)) (pre_le ep hc.2.2.2.2.1))) rfl) hN)
 ·rw [show byteArr (List.flatMap encN []) = #[] from rfl, Array.append_empty]
  rfl
 ·have q := h [(ofString "config", cfgV c), (ofString "sink", .cel 0)] [sinkM H]
  rw [ep, show byteArr (List.flatMap encN []) = #[] from rfl, Array.append_empty] at q
  exact ca h120 (k120_mk _ rfl rfl (sz_le' hz rfl) q)
 ·exact ca h120 (k120_mk _ rfl rfl (sz_le' (sz_le2 hz (flatN_sz hc.2.2.2.2.2 hc.2.2.2.2.1)) rfl) (h _ _))
theorem dl8 (a : Int) : (byteArr (digitsL a 8)).size = 8 := by rw [byteArr_len, digitsL, length_map, length_range]
theorem encC_eq {c : Cfg} (hc : okC c) : #[] ++ byteArr (digitsL 1953654117 4) ++ byteArr (digitsL 1 1) ++ byteArr (digitsL c.name.length 1) ++ byteArr (c.name.cps.toList.map fun c : Nat => (c : Int)) ++ byteArr (digitsL c.g 8) ++ byteArr (digitsL c.ed 4) ++ byteArr (digitsL c.tops.length 1) ++ byteArr (c.tops.flatMap encN) = byteArr (encC c) := by
 have c1 := hc.1
 have c5 := hc.2.2.2.2.1
 rw [dig1 (a := 1) (by decide), dig1 (a := (c.name.length : Int)) ⟨by omega, by omega⟩, dig1 (a := (c.tops.length : Int)) ⟨by omega, by omega⟩]
 simp only [byteArr_app, Array.append_assoc, Array.empty_append]
 rw [encC, encT]
 simp only [append_assoc]
theorem b297 {Γ ΓC : Addr → Ctr} {c : Cfg} (h92 : ΓC 92 = k92) (h99 : ΓC 99 = k99) (h113 : ΓC 113 = k113) (h290 : ΓC 290 = k290) (h120 : Γ 120 = k120) (hc : okC c) (h : Q (.bytes (byteArr (encC c))) none) : bdC (stN 28) Γ ΓC ["config"] [cfgV c] none Q := by
 rw [← encC_eq hc] at h
 have c1 := hc.1
 have c5 := hc.2.2.2.2.1
 have e0 : (byteArr (c.name.cps.toList.map fun c : Nat => (c : Int))).size ≤ 255 := by rw [byteArr_len, length_map]; exact c1
 have s3 : (#[] ++ byteArr (digitsL 1953654117 4) ++ byteArr (digitsL 1 1) ++ byteArr (digitsL c.name.length 1) ++ byteArr (c.name.cps.toList.map fun c : Nat => (c : Int))).size ≤ 261 := sz_le2 (sz_le (sz_le (sz_le (Nat.le_refl 0) (dl4 _)) (dl1 _)) (dl1 _)) e0
 refine ca h92 (k92_mk _ rfl rfl rfl ?_)
 refine ca h99 (k99_mk _ _ _ rfl rfl (by decide) (by decide) (by decide) ?_)
 refine ca h99 (k99_mk _ _ _ rfl rfl (by decide) (by decide) (by decide +kernel) ?_)
 refine ca h113 (k113_mk _ c.name rfl rfl c1 hc.2.1 (by decide +kernel) ?_)
 refine ca h99 (k99_mk _ c.g 8 rfl rfl (by decide) hc.2.2.1 (sz_le' s3 rfl) ?_)
 refine ca h99 (k99_mk _ c.ed 4 rfl rfl (by decide) hc.2.2.2.1 (sz_le' (sz_le s3 (dl8 _)) rfl) ?_)
 have e : (c.tops.map nodeV).length = c.tops.length := length_map _
 rw [← e] at h c5
 refine cL ?_ (Nat.le_trans c5 (by decide))
 refine ca h99 (k99_mk _ ((c.tops.map nodeV).length : Int) 1 rfl rfl (by decide) ⟨Int.natCast_nonneg _, by show ((c.tops.map nodeV).length : Int) < 256; omega⟩ (sz_le' (sz_le (sz_le s3 (dl8 _)) (dl4 _)) rfl) ?_)
 exact l297 h290 h120 hc (sz_le' (sz_le (sz_le (sz_le s3 (dl8 _)) (dl4 _)) (dl1 _)) rfl) (fun _ _ => h)
theorem SoundFC.up {r r' : Nat} {f : Addr} {φ : Ctr} (h : SoundFC G r f φ) (hr : r ≤ r') : SoundFC G r' f φ :=
 fun A s fr g base b vals vs Q Q' a1 a2 a3 a4 a5 => h A s fr g base b vals vs Q Q' a1 a2 a3 (by omega) (by omega)
theorem lookC_nil (f : Addr) : SoundFC G r f (look [] f) := fun A s fr g base b vals vs Q Q' a1 a2 a3 a4 a5 a6 a7 a8 a9 h => h.elim
theorem lookC_all {l : List (Addr × Ctr)} (h : ∀ p ∈ l, SoundFC G r p.1 p.2) (f : Addr) : SoundFC G r f (look l f) := by
 unfold look
 cases e : l.lookup f with
 | none => exact fun A s fr g base b vals vs Q Q' a1 a2 a3 a4 a5 a6 a7 a8 a9 h => h.elim
 | some c => exact lookup_all (Pr := fun a b => SoundFC G r a b) h e
section
theorem s92 {Γ ΓC : Addr → Ctr} (hG : G.K = theK P) (hΓ : ∀ f, SoundF G r f (Γ f)) (hΓC : ∀ f, SoundFC G r f (ΓC f)) : SoundFC G (r + 2) 92 k92 :=
 step0C hG hΓ hΓC (cmN 9 0) "Sink.__init__" .none (.str (ofString "treepool.octets") 250) (.ref 91) ["self"] (by kernel_rfl) (by kernel_rfl) (by kernel_rfl) rfl (pb1 fun a S => by kernel_rfl) fun vs m Q h => by
  obtain ⟨c, rfl, rfl, rfl, h⟩ := h
  exact ⟨rfl, b92 h⟩
theorem s99 {Γ ΓC : Addr → Ctr} (hG : G.K = theK P) (hΓ : ∀ f, SoundF G r f (Γ f)) (hΓC : ∀ f, SoundFC G r f (ΓC f)) (h68 : Γ 68 = k68) : SoundFC G (r + 2) 99 k99 :=
 step0C hG hΓ hΓC (cmN 9 1) "Sink.number" .none (.str (ofString "treepool.octets") 250) (.ref 98) ["self", "number", "size"] (by kernel_rfl) (by kernel_rfl) (by kernel_rfl) rfl (pb3 fun a b c S => by kernel_rfl) fun vs m Q h => by
  obtain ⟨b, a, n, rfl, rfl, h1, h2, h3, h4⟩ := h
  exact ⟨rfl, b99 h68 h1 h2 h3 h4⟩
theorem s113 {Γ ΓC : Addr → Ctr} (hG : G.K = theK P) (hΓ : ∀ f, SoundF G r f (Γ f)) (hΓC : ∀ f, SoundFC G r f (ΓC f)) (h73 : Γ 73 = k73) (h99 : ΓC 99 = k99) : SoundFC G (r + 2) 113 k113 :=
 step0C hG hΓ hΓC (cmN 9 3) "Sink.text" .none (.str (ofString "treepool.octets") 250) (.ref 112) ["self", "text"] (by kernel_rfl) (by kernel_rfl) (by kernel_rfl) rfl (pb2 fun a b S => by kernel_rfl) fun vs m Q h => by
  obtain ⟨b, s, rfl, rfl, h1, h2, h3, h4⟩ := h
  exact ⟨rfl, b113 h73 h99 h1 h2 h3 h4⟩
theorem s290d {Γ ΓC : Addr → Ctr} (hG : G.K = theK P) (hΓ : ∀ f, SoundF G r f (Γ f)) (hΓC : ∀ f, SoundFC G r f (ΓC f)) (h99 : ΓC 99 = k99) (h239 : Γ 239 = k239) : SoundFC G (r + 2) 290 k290d :=
 step0C hG hΓ hΓC (stN 27) "put_node" .none (.str (ofString "treepool.config") 400) (.ref 289) ["sink", "node"] (by kernel_rfl) (by kernel_rfl) (by kernel_rfl) rfl (pb2 fun a b S => by kernel_rfl) fun vs m Q h => by
  obtain ⟨b, g, rfl, rfl, h1, h2, h3⟩ := h
  exact ⟨rfl, b290d h99 h239 h1 h2 h3⟩
theorem s290 {Γ ΓC : Addr → Ctr} (hG : G.K = theK P) (hΓ : ∀ f, SoundF G r f (Γ f)) (hΓC : ∀ f, SoundFC G r f (ΓC f)) (h99 : ΓC 99 = k99) (h290 : ΓC 290 = k290d) (h239 : Γ 239 = k239) : SoundFC G (r + 2) 290 k290 :=
 step0C hG hΓ hΓC (stN 27) "put_node" .none (.str (ofString "treepool.config") 400) (.ref 289) ["sink", "node"] (by kernel_rfl) (by kernel_rfl) (by kernel_rfl) rfl (pb2 fun a b S => by kernel_rfl) fun vs m Q h => by
  obtain ⟨b, n, rfl, rfl, h1, h6, h7⟩ := h
  exact ⟨rfl, b290s h99 h290 h239 h1 h6 h7⟩
theorem s297 {Γ ΓC : Addr → Ctr} (hG : G.K = theK P) (hΓ : ∀ f, SoundF G r f (Γ f)) (hΓC : ∀ f, SoundFC G r f (ΓC f)) (h92 : ΓC 92 = k92) (h99 : ΓC 99 = k99) (h113 : ΓC 113 = k113) (h290 : ΓC 290 = k290) (h120 : Γ 120 = k120) : SoundFC G (r + 2) 297 k297 :=
 step0C hG hΓ hΓC (stN 28) "config_octets" .none (.str (ofString "treepool.config") 400) (.ref 296) ["config"] (by kernel_rfl) (by kernel_rfl) (by kernel_rfl) rfl (pb1 fun a S => by kernel_rfl) fun vs m Q h => by
  obtain ⟨c, rfl, rfl, h1, h2⟩ := h
  exact ⟨rfl, b297 h92 h99 h113 h290 h120 h1 h2⟩
theorem step0A {f : Addr} {φ : Ctr} (hG : G.K = theK P) (s : Stmt) (qual : String) (dV pm cdv : Value) (names : List String)
  (ho : (theK P).lookup f = some ⟨.type "function", none, .func (fD s qual dV pm cdv), #[]⟩) (hcd : codeIn (theK P) cdv (ofString qual) = true) (hs : fnChk (fS s) (names.map ofString) = true) {n : Nat} (hn : names.length = n)
  (hb : PB P (fD s qual dV pm cdv) names n []) (hlen : ∀ vs m Q X, φ vs m Q X → vs.length = names.length)
  (hw : ∀ (cx : Cx) (A : Around) (g : PH) (b : Option Bor) (vs : List V) (Q : V → Option M → Prop) (X : Str → Prop), CxOk G cx → AOk cx A r → cx.envF.scope = fS s → cx.D = borD b → φ vs (b.map (·.1)) Q X →
   WS G cx A [] (execs (fB s) cx.envF) (fun st => Q .none (mOf b.isSome st)) (fun v o => match o with | some st => Q v (mOf b.isSome st) | none => b = none ∧ Q v none) X g (borA b) ⟨(names.map ofString).zip vs, (b.map (·.1)).toList⟩) : SoundF G (r + 1) f φ := by
 subst hn
 unfold fnChk at hs
 simp only [Bool.and_eq_true, Bool.not_eq_true', beq_iff_eq, all_eq_true, Bool.or_eq_true] at hs
 obtain ⟨⟨⟨⟨⟨h1, h2⟩, h3⟩, h4⟩, h5⟩, h6⟩ := hs
 refine fn_sound (by rw [hG]; exact ho) rfl (by rw [hG]; exact hcd) h1 h2 h3 (nDup_nodup h4) (fun vs ls => ls = (names.map ofString).zip vs) ?_ ?_
 ·intro g ad vs vals sh Q X m gb KI rs hq
  have hl := hlen vs m Q X hq
  have e : (names.map ofString).length = vals.length := by rw [← rs.len, length_map]; exact hl.symm
  have hB := kp_binds KI (fun S => by rw [hG]; exact hb vals (by rw [← e, length_map]) S)
  rw [append_nil] at hB
  refine ⟨_, _, rfl, Pairs.zip rs, hB, by rw [zip_fst e]; exact nDup_nodup h5, fun n x hx => ?_⟩
  have hx' := (List.of_mem_zip hx).1
  rcases h6 _ hx' with q | q
  ·exact .inl q
  ·exact .inr ⟨q, cellsFrom_some q⟩
 ·rintro cx A g b vs ls Q X C O hsc hD rfl hq
  exact hw cx A g b vs Q X C O hsc hD hq
theorem s120 (hG : G.K = theK P) : SoundF G 2 120 k120 := by
 refine step0A (r := 1) hG (cmN 9 4) "Sink.whole" .none (.str (ofString "treepool.octets") 250) (.ref 119) ["self"] (by kernel_rfl) (by kernel_rfl) (by kernel_rfl) rfl (pb1 fun a S => by kernel_rfl) (fun vs m Q X h => ?_) fun cx A g b vs Q X C O hsc hD h => ?_
 ·obtain ⟨b, rfl, rfl, h1, h2⟩ := h; rfl
 ·obtain ⟨bb, rfl, hm, h1, h2⟩ := h
  have hT : TabsOk G.K theT := hG ▸ tabs_ok P
  obtain ⟨p1, p2, p3, p4, p5, ef⟩ : ∃ p1 p2 p3 p4 p5, fB (cmN 9 4) = [Stmt.Return (some (.Call (.Name (ofString "bytes") p1) [.Attribute (.Name (ofString "self") p2) (ofString "octets") p3] [] p4)) p5] := ⟨_, _, _, _, _, rfl⟩
  have hv := (lv_sound (X := X) C O hT (look_nil (G := G) (r := 0)) 1).1 [] ⟨cx.envF.scope, none⟩ cx.envF (.Name (ofString "self") p2)
  rw [ef]
  have hbs : b.isSome = true := by cases b with | none => cases hm | some _ => rfl
  refine ws_cons' (P := fun _ => False) (ws_whole (c := ofString "Sink") (j := 0) C rfl (by rw [hsc]; kernel_rfl) (by rw [hG]; kernel_rfl) hv (hT.fd _ _ (by kernel_rfl)) ?_) fun _ _ _ h => h.elim
  rw [hsc, hm]
  have : (lv theT (look []) X 1).ev ⟨fS (cmN 9 4), none⟩ (.Name (ofString "self") p2) (fun v st => v = .cel 0 ∧ ∃ b₁, st.mu[0]? = some (.inst (ofString "Sink") [(ofString "octets", .barr b₁)]) ∧ b₁.size ≤ 16777216 ∧ Q (.bytes b₁) (mOf b.isSome st)) ⟨[(ofString "self", .cel 0)], [sinkM bb]⟩ := by
   exact ⟨rfl, bb, rfl, h1, by rw [hbs]; exact h2⟩
  exact this
end
noncomputable def polyG : List Int → Int
 | [] => 0
 | g :: gs => g * 31 ^ gs.length + polyG gs
theorem emod_lin (x c d : Int) : ((x % 4294967296) * c + d) % 4294967296 = (x * c + d) % 4294967296 := by
 have e : x * c + d = (x % 4294967296) * c + d + 4294967296 * ((x / 4294967296) * c) := by
  have h : x = x % 4294967296 + 4294967296 * (x / 4294967296) := (Int.emod_add_mul_ediv x 4294967296).symm
  calc x * c + d = (x % 4294967296 + 4294967296 * (x / 4294967296)) * c + d := by rw [← h]
   _ = _ := by rw [Int.add_mul, Int.mul_assoc]; omega
 rw [e, Int.add_mul_emod_self_left]
theorem fold_poly : ∀ (gs : List Int) (f : Int), gs.foldl nStep f % 4294967296 = (f * 31 ^ gs.length + polyG gs) % 4294967296
 | [], f => by simp [polyG]
 | g :: gs, f => by
  rw [List.foldl_cons, fold_poly gs (nStep f g), nStep, Int.fmod_eq_emod_of_nonneg _ (by decide), emod_lin]
  congr 1
  rw [polyG, length_cons, Int.pow_succ, Int.add_mul, ← Int.mul_assoc, Int.mul_right_comm, Int.add_assoc, Int.mul_right_comm f]
theorem fold_rng : ∀ (gs : List Int) (f : Int), 0 ≤ f ∧ f < 4294967296 → 0 ≤ gs.foldl nStep f ∧ gs.foldl nStep f < 4294967296
 | [], f, h => h
 | g :: gs, f, h => fold_rng gs (nStep f g) ⟨Int.fmod_nonneg_of_pos _ (by decide), Int.fmod_lt_of_pos _ (by decide)⟩
theorem zip_poly (n : Nat) : ∀ (gs : List Int) (k : Nat), k + gs.length = n → ((gs.zipIdx k).map fun x => x.1 * 31 ^ ((n : Int) - 1 - (x.2 : Int)).toNat).sum = polyG gs
 | [], k, h => rfl
 | g :: gs, k, h => by
  rw [length_cons] at h
  rw [List.zipIdx_cons, map_cons, List.sum_cons, zip_poly n gs (k + 1) (by omega), polyG]
  have e : ((n : Int) - 1 - (k : Int)).toNat = gs.length := by omega
  simp only [e]
theorem numD_law {gs : List Int} {p : Int} (hp : 0 ≤ p ∧ p ≤ 255) : numD gs p = lawNum gs p := by
 have h := fold_rng gs (17 + p) (by omega)
 rw [lawNum, zip_poly gs.length gs 0 (by omega), Int.fmod_eq_emod_of_nonneg _ (by decide), ← fold_poly]
 exact (Int.emod_eq_of_lt h.1 h.2).symm
theorem poly_mod (l : List Int) : polyG (l.map fun x => x.fmod 4294967296) % 4294967296 = polyG l % 4294967296 := by
 induction l with
 | nil => rfl
 | cons x l ih =>
  show (x.fmod 4294967296 * 31 ^ (l.map fun x => x.fmod 4294967296).length + polyG (l.map fun x => x.fmod 4294967296)) % 4294967296 = (x * 31 ^ l.length + polyG l) % 4294967296
  rw [Int.fmod_eq_emod_of_nonneg _ (by decide), emod_lin, length_map, Int.add_emod, ih, ← Int.add_emod]
theorem poly_lin (b : Int) (l : List Int) : polyG (l.map fun k => b + 7 * k) = b * polyG (l.map fun _ => 1) + 7 * polyG l := by
 induction l with
 | nil => show (0 : Int) = b * 0 + 7 * 0; rw [Int.mul_zero]; rfl
 | cons x l ih =>
  show (b + 7 * x) * 31 ^ (l.map fun k => b + 7 * k).length + polyG (l.map fun k => b + 7 * k) = b * (1 * 31 ^ (l.map fun _ => (1 : Int)).length + polyG (l.map fun _ => 1)) + 7 * (x * 31 ^ l.length + polyG l)
  rw [ih, length_map, length_map, Int.one_mul, Int.mul_add, Int.mul_add, Int.add_mul, Int.mul_assoc 7 x, Int.add_assoc, Int.add_assoc, Int.add_left_comm (7 * (x * 31 ^ l.length))]
theorem poly_disk (a : Int) (l : List Nat) : polyG (l.map (diskG a)) % 4294967296 = (a.fdiv 3 * polyG (List.replicate l.length 1) + 7 * polyG (l.map Int.ofNat)) % 4294967296 := by
 have e : l.map (diskG a) = ((l.map Int.ofNat).map fun k => a.fdiv 3 + 7 * k).map fun x => x.fmod 4294967296 := by rw [map_map, map_map]; exact List.map_congr_left fun k _ => rfl
 rw [e, poly_mod, poly_lin, List.map_const', length_map]
theorem rev_key : ∀ n < 9, 2 ≤ n → (7 * polyG ((List.range n).reverse.map Int.ofNat)) % 4294967296 ≠ (7 * polyG ((List.range n).map Int.ofNat)) % 4294967296 := by decide +kernel
theorem rev_num {a : Int} {n : Nat} {p : Int} (hn : 2 ≤ n ∧ n ≤ 8) : numD ((List.range n).map (diskG a)) p ≠ numD ((List.range n).map (diskG a)).reverse p := by
 intro e
 have h1 := fold_poly ((List.range n).map (diskG a)) (17 + p)
 have h2 := fold_poly ((List.range n).map (diskG a)).reverse (17 + p)
 unfold numD at e
 rw [e, h2, length_reverse, Int.emod_add_cancel_left, ← List.map_reverse, poly_disk, poly_disk, length_reverse, Int.emod_add_cancel_left] at h1
 exact rev_key n (Nat.lt_succ_of_le hn.2) hn.1 h1
theorem lb_len : typeLookup (.type "bytes") "__len__" = pure (some (.builtin "bytes.__len__")) := by rw [typeLookup_type, builtinLookup_eq_fast]; kernel_rfl
section
noncomputable abbrev OctAt (b : Array UInt8) (i : Nat) (v : Value) : Prop := ∃ c u, b[i]? = some c ∧ v = .int (c.toNat : Int) u
theorem lb_extend {R : Result → Shared → Prop} (hh : A.handled = none) (b : Array UInt8) (t : Tok) (S : Addr) (res : Value) (c₀ : Nat) (hS : s.heap.get? S = some { cls := .type "list", data := .seq #[] c₀ })
  (hR : ∀ h' tk acc' c', (∀ b o, b ≠ S → s.heap.get? b = some o → h'.get? b = some o) → h'.get? S = some { cls := .type "list", dict := none, data := .seq acc' c', slots := #[] } →
   ItemsOf (OctAt b) acc' b.size → R (.ok (.ret res)) { s with heap := h', toks := tk }) (hn : b.size ≤ sizeLine) :
  wpAny (model prog w) A.in1 (Builtin.List.listExtendWith (.ref S) (.bytes b t) res)
   (fun fin s' => match fin with | .done f => R (.ok f) s' | .again c' => c'.quiet = true ∧ codeAny (model prog w) A c' R s') (fun e s' => R (.error e) s') s := by
 have hSI : S ≠ s.heap.objs.size := Nat.ne_of_lt (Heap.lt_size hS)
 have hSf : S ∉ [s.heap.objs.size] := fun hm => hSI (mem_singleton.mp hm)
 unfold Builtin.List.listExtendWith
 refine wpAny_bind (wpAny_typeOf (T := "bytes") (v := .bytes b t) rfl ?_)
 have h1 : Builtin.List.listSameRef (.ref S) (.bytes b t) = false := rfl
 have h2 : (Value.type "bytes" == Value.type "list") = false := by decide
 have h3 : (Value.type "bytes" == Value.type "tuple") = false := by decide
 simp only [h1, h2, h3, Bool.or_false, Bool.false_eq_true, if_false]
 refine wpAny_bind (PySem.W.KBw.pyIter_bytes ?_)
 refine wpAny_bind (wpAny_holding ?_)
 unfold Builtin.List.listLengthHint
 refine wpAny_bind (wpAny_specialOf (T := "bytes") (v := .bytes b t) rfl lb_len ?_)
 wp_delta
 refine wpAny_bind (wpAny_isInstance (T := "bytes") (v := .bytes b t) (b := true) rfl (by rw [isSubtype_type]; kernel_rfl) ?_)
 show wpAny _ _ (typeOf (Value.bytes b t) >>= _) _ _ _
 refine wpAny_bind (wpAny_typeOf (T := "bytes") (v := .bytes b t) rfl ?_)
 refine wpAny_pure ?_
 rw [if_neg (by decide)]
 have st0 : PySem.W.KBw.IsBytesIter (s.heap.push { cls := .type "bytes_iterator", data := .fields #[.bytes b t, .int 0 0] }) s.heap.objs.size b t 0 := ⟨_, Heap.get?_push_size _ rfl, rfl, rfl⟩
 refine wpAny_pure ⟨plainId_quiet F.plain_extend_loop _, codeAny_extend_loopS (PySem.W.KBw.walks (A := A.in1) hh s.heap.objs.size b t).toS hn _ hSf _ b.size 0 _ _ _ rfl (Nat.zero_le _) st0 (Heap.get?_push_of_some _ hS) (ItemsOf.nil _) fun s' acc' c' hm hS' hacc => ?_⟩
 rw [Moved.eq_with hm]
 refine hR s'.heap s'.toks acc' c' (fun b ob hb e => hm.heap b ob (fun hmem => ?_) (Heap.get?_push_of_some _ e)) hS' hacc
 rcases mem_cons.mp hmem with e' | hmem
 ·exact hb e'
 ·exact absurd (Heap.lt_size e) (by rw [mem_singleton.mp hmem]; exact Nat.lt_irrefl _)
theorem lb_init {R : Result → Shared → Prop} (hh : A.handled = none) (b : Array UInt8) (t : Tok) (S : Addr) (hS : s.heap.get? S = some { cls := .type "list", data := .seq #[] })
  (hR : ∀ h' tk acc' c', (∀ b o, b ≠ S → s.heap.get? b = some o → h'.get? b = some o) → h'.get? S = some { cls := .type "list", dict := none, data := .seq acc' c', slots := #[] } →
   ItemsOf (OctAt b) acc' b.size → R (.ok (.ret .none)) { s with heap := h', toks := tk }) (hn : b.size ≤ sizeLine) :
  wpAny (model prog w) A.in1 (Builtin.«list.__init__» ⟨[.ref S, .bytes b t], []⟩)
   (fun fin s' => match fin with | .done f => R (.ok f) s' | .again c' => c'.quiet = true ∧ codeAny (model prog w) A c' R s') (fun e s' => R (.error e) s') s := by
 show wpAny _ _ (do let old ← Builtin.List.listItems (.ref S); Builtin.List.listUpdate (.ref S) (fun _ => #[]); letGo old.toList.reverse; Builtin.List.listExtendWith (.ref S) (.bytes b t) .none) _ _ s
 refine wpAny_bind ?_
 unfold Builtin.List.listItems
 refine wpAny_bind (wpAny_seqItems hS rfl (wpAny_pure ?_))
 show wpAny _ _ (updateSeq S (fun _ => #[]) >>= fun _ => letGo (#[] : Array Value).toList.reverse >>= fun _ => Builtin.List.listExtendWith (.ref S) (.bytes b t) .none) _ _ s
 refine wpAny_bind (wpAny_updateSeq hS rfl ?_)
 have hS₂ := Heap.get?_update_self (Obj.mapSeq (fun _ => (#[] : Array Value))) hS rfl
 have oth : ∀ b o, b ≠ S → s.heap.get? b = some o → (s.heap.update S (Obj.mapSeq (fun _ => (#[] : Array Value)))).get? b = some o :=
  fun b o hb e => (Heap.get?_update_other _ _ (Ne.symm hb)).trans e
 refine wpAny_bind (wpAny_letGo ?_)
 refine lb_extend (hn := hn) hh b t S .none _ hS₂ fun h' tk acc' c' hk hS' hacc => ?_
 exact hR h' tk acc' c' (fun b o hb e => hk b o hb (oth b o hb e)) hS' hacc
theorem lb_call {Q : Value → Shared → Prop} (hh : A.handled = none) (b : Array UInt8) (t : Tok)
  (hQ : ∀ h' tk acc' c', (∀ b o, s.heap.get? b = some o → h'.get? b = some o) →
   h'.get? s.heap.objs.size = some { cls := .type "list", dict := none, data := .seq acc' c', slots := #[] } → ItemsOf (OctAt b) acc' b.size → Q (.ref s.heap.objs.size) { s with heap := h', toks := tk }) (hn : b.size ≤ sizeLine) :
  wpAny (model prog w) A (call (.type "list") [.bytes b t]) Q E s := by
 refine callType_codes (Q₁ := fun obj s₁ => obj = .ref s.heap.objs.size ∧ s₁ = { s with heap := s.heap.push { cls := .type "list", data := .seq #[] } }) F.called_list (F.typeCall_list_1 _) F.entry_list_init
  (code_list_new _ ⟨rfl, rfl⟩) fun obj s₁ h₁ => ?_
 obtain ⟨rfl, rfl⟩ := h₁
 have hS : (s.heap.push { cls := .type "list", data := .seq #[] }).get? s.heap.objs.size = some { cls := .type "list", data := .seq #[] } := Heap.get?_push_size _ rfl
 refine ⟨⟨_, hS, rfl⟩, F.args_list_init_2 _ _, lb_init (A := A.in1) (hn := hn) hh b t _ hS fun h' tk acc' c' hk hS' hacc => ?_⟩
 exact ⟨rfl, hQ h' tk acc' c' (fun b o e => hk b o (Nat.ne_of_lt (Heap.lt_size e)) (Heap.get?_push_of_some _ e)) hS' hacc⟩
end
section
theorem oct_rs {b : Array UInt8} : ∀ (vs : List Value) (l : List UInt8), vs.length = l.length → (∀ (j : Nat) (v : Value), vs[j]? = some v → ∃ (c : UInt8) (u : Tok), l[j]? = some c ∧ v = Value.int (c.toNat : Int) u) → VRs G g [] (l.map fun c => V.int (c.toNat : Int)) vs
 | [], [], _, _ => .nil
 | v :: vs, c :: l, h, k => by
  obtain ⟨c', u, e1, e2⟩ := k 0 v rfl
  cases e1
  subst e2
  exact .cons (.int _ u) (oct_rs (b := b) vs l (by simpa using h) fun j w e => k (j + 1) w (by simpa using e))
theorem s_listB {b : Array UInt8} {a : Value} {Q : V → DS → Prop} (C : CxOk G cx) (O : AOk cx A r) (ra : VR G g ad (.bytes b) a) (hz : b.size ≤ lstLine) (hq : Q (iV (toI b.toList)) st) : WV G cx A ex (call (.type "list") [a]) Q X g ad st := fun s Q' E' R hg k he => by
 obtain ⟨t, rfl⟩ := ra.inv
 refine lb_call O.handled b t (fun h' tk acc c hk e hi => ?_) (Nat.le_trans hz (by decide))
 obtain ⟨S, R'⟩ := R.keptNew C hk (Nat.le_refl _) e
 have rs : VRs G (upd g s.heap.objs.size { cls := .type "list", dict := none, data := .seq acc c, slots := #[] }) [] (b.toList.map fun c => V.int (c.toNat : Int)) acc.toList := oct_rs (b := b) _ _ (by simpa using hi.1) fun j v hv => by
  obtain ⟨c, u, e1, e2⟩ := hi.2 j v (by simpa using hv)
  exact ⟨c, u, by simpa using e1, e2⟩
 refine k _ _ ad st _ S (prefix_refl _) ⟨.lst (b.toList.map fun c => V.int (c.toNat : Int)), .lst ⟨c, by rw [Array.toArray_toList]; exact upd_self _ _ _⟩ rs, ?_⟩ R' hg rfl
 have : V.lst (b.toList.map fun c => V.int (c.toNat : Int)) = iV (toI b.toList) := by rw [iV, toI, map_map]; rfl
 rw [this]; exact hq
theorem rc_listB {np pos : Pos} {e : Expr} {F₁ : (V → DS → Prop) → DS → Prop} (C : CxOk G cx) (O : AOk cx A r) (hk : nc.sc.names.lookup (ofString "list") = some .globalImplicit) (hx : nsIn G.K mainGlobals (ofString "list") = some none) (hb : biOf (ofString "list") = some .list) (hn : noStar [e] = true)
  (h1 : SdC G cx A ex nc env (eval e env) F₁) : SdC G cx A ex nc env (eval (.Call (.Name (ofString "list") np) [e] [] pos) env) (fun Q st => F₁ (fun v st => ∃ b, v = .bytes b ∧ b.size ≤ lstLine ∧ Q (iV (toI b.toList)) st) st) := fun Q g ad st Nv h s Q' R hg hq => by
 obtain ⟨b1, b2, b3⟩ := biOf_boot hb
 rw [eval_Call_fn (func := .Name (ofString "list") np) (by intro o n p e; cases e)]
 refine wpC_part (name_boot C Nv hk hx b1 b2 b3 R ?_)
 refine wpC_callWith (P := G.K.In) (noStar_any hn) (fun h X => Bi.callOk G Bi.list (model G.prog G.w) h X) (wpC_args1 hn ?_)
 refine h1 _ g ad st Nv h s _ R hg fun a g' ad' st' s' S p ⟨v, rv, b, hv, hz, q⟩ R' hg' ho => ⟨R'.kin C, rfl, ?_⟩
 subst hv
 exact wpC_of (s_listB (X := NoX) C O rv hz q s' _ _ R' hg' (fun b g₂ ad₂ st₂ s₂ S₂ p₂ q R₂ hg₂ ho₂ => hq b g₂ ad₂ st₂ s₂ (S.trans S₂) (p.trans p₂) q R₂ hg₂ (ho₂.trans ho)) fun c e s' hX => hX.elim)
end
noncomputable abbrev ncL : NC := ⟨fS (stN 46), none⟩
noncomputable def lawA : List Stmt := (fB (stN 46)).take 12
noncomputable def lawB : List Stmt := (fB (stN 46)).drop 13
theorem pick_take (l : List V) (p : Nat) : pickV l none (some (p : Int)) none = l.take p := by
 rw [pickV_run]
 have e1 : kms_lo none l.length = 0 := rfl
 have e2 : kms_hi (some (p : Int)) l.length = min p l.length := by unfold kms_hi; simp only; rw [if_neg (by omega)]; omega
 rw [e1, e2, List.drop_zero, Nat.sub_zero]
 by_cases h : p ≤ l.length
 ·rw [Nat.min_eq_left h]
 ·rw [Nat.min_eq_right (by omega), take_of_length_le (Nat.le_refl _), take_of_length_le (by omega)]
theorem pick_drop (l : List V) (p : Nat) (h : p ≤ l.length) : pickV l (some (p : Int)) none none = l.drop p := by
 rw [pickV_run]
 have e1 : kms_lo (some (p : Int)) l.length = p := by unfold kms_lo; simp only; rw [if_neg (by omega)]; omega
 have e2 : kms_hi none l.length = l.length := by unfold kms_hi; rfl
 rw [e1, e2, take_of_length_le (by simp only [length_drop]; omega)]
theorem rep_flat (n : Nat) : (List.replicate n [V.int 0]).flatten = (List.replicate n (0 : Int)).map V.int := by
 induction n with
 | zero => rfl
 | succ n ih => rw [replicate_succ, flatten_cons, ih, replicate_succ, map_cons]; rfl
theorem compT_ang' {α β : Type} {FE : List (Str × V) → QV → DS → Prop} {g : α → List (Str × V)} {ok : β → Prop} {f : β → V} : ∀ {xs : List α} {Q : List V → DS → Prop} {st : DS},
  (∀ x ∈ xs, ∀ K : QV, (∀ b, ok b → K (f b) st) → FE (g x) K st) → (∀ b, ok b → (f b).isCel = false) → (∀ bs : List β, bs.length = xs.length → (∀ b ∈ bs, ok b) → Q (bs.map f) st) → compT FE (xs.map g) Q st
 | [], Q, st, _, _, h => h [] rfl (fun _ h => by cases h)
 | x :: xs, Q, st, h1, h2, h => h1 x (.head _) _ fun b hb => by
   refine chk_mk (b := !(f b).isCel) (by rw [h2 b hb]; rfl) ?_
   exact compT_ang' (Q := fun vs st => Q (f b :: vs) st) (fun y hy => h1 y (.tail _ hy)) h2 fun bs hl hb' => h (b :: bs) (by rw [length_cons, length_cons, hl]) (fun c hc => by
    rcases mem_cons.mp hc with rfl | hc
    ·exact hb
    ·exact hb' c hc)
theorem compT_ang {α β : Type} {FE : List (Str × V) → QV → DS → Prop} {g : α → List (Str × V)} (ok : β → Prop) (f : β → V) {xs : List α} {Q : List V → DS → Prop} {st : DS}
  (h1 : ∀ x ∈ xs, ∀ K : QV, (∀ b, ok b → K (f b) st) → FE (g x) K st) (h2 : ∀ b, ok b → (f b).isCel = false) (h : ∀ bs : List β, bs.length = xs.length → (∀ b ∈ bs, ok b) → Q (bs.map f) st) : compW FE (xs.map g) Q st := ⟨compT_ang' h1 h2 h⟩
theorem planV_cel (p : Pl) : (planV p).isCel = false := by
 cases p with
 | odd k a => show (oddV a k).isCel = false; unfold oddV; split <;> rfl
 | _ => rfl
noncomputable def nmL : List V := [V.str (ofString "a"), V.str (ofString ""), V.str (ofString "tank 1"), V.str (ofString "~")]
theorem nm_get {j : Nat} (h : j < 4) : ∃ nm : Str, nmL[j]? = some (.str nm) ∧ nm.length ≤ 255 ∧ ∀ z ∈ nm.cps.toList, 32 ≤ z ∧ z < 127 := by
 match j, h with
 | 0, _ => exact ⟨ofString "a", rfl, by decide +kernel, by decide +kernel⟩
 | 1, _ => exact ⟨ofString "", rfl, by decide +kernel, by decide +kernel⟩
 | 2, _ => exact ⟨ofString "tank 1", rfl, by decide +kernel, by decide +kernel⟩
 | 3, _ => exact ⟨ofString "~", rfl, by decide +kernel, by decide +kernel⟩
theorem ok_odd {p : Pl} (h : okPl p = true) : isOdd p = false := by
 cases p <;> first | rfl | cases h
theorem guidsPl_len {p : Pl} (h : wfPl p) : (guidsPl p).length ≤ 8 := by
 cases p with
 | disk g => exact (by decide : 1 ≤ 8)
 | mir gs => exact h.1
 | rz q gs => exact h.1
 | odd => exact Nat.zero_le _
theorem guidsPs_len : ∀ {ps : List Pl}, (∀ p ∈ ps, wfPl p) → (ps.flatMap guidsPl).length ≤ 8 * ps.length
 | [], _ => Nat.le_refl _
 | p :: ps, h => by
  have h1 := guidsPl_len (h p (.head _))
  have h2 := guidsPs_len (ps := ps) fun q hq => h q (.tail _ hq)
  rw [flatMap_cons, length_append, length_cons]
  omega
theorem guidsN_of {p : Pl} (h : okPl p = true) : guidsN (nodeOf p) = guidsPl p := by
 cases p <;> first | rfl | cases h
theorem guidsNs_of : ∀ {ps : List Pl}, (∀ p ∈ ps, okPl p = true) → guidsNs (ps.map nodeOf) = ps.flatMap guidsPl
 | [], _ => rfl
 | p :: ps, h => by
  have h1 := guidsN_of (h p (.head _))
  have h2 := guidsNs_of (ps := ps) fun q hq => h q (.tail _ hq)
  rw [map_cons, guidsNs, flatMap_cons, flatMap_cons, ← guidsNs, h1, h2]
noncomputable def stL (ys : List Int) (d0 d1 : Int) (dr : List Int) (ps : List Pl) (nm : Str) (gd ed : Int) : DS :=
 ⟨[(ofString "script", iV ys), (ofString "digits", iV (d0 :: d1 :: dr)), (ofString "plans", .lst (ps.map planV)), (ofString "name", .str nm), (ofString "guid", .int gd), (ofString "is_right", .bool true), (ofString "guids", .cel 0), (ofString "plan", planV (ps.getLastD (.odd 0 0))), (ofString "edition", .int ed), (ofString "config", cfgV ⟨nm, gd, ed, ps.map nodeOf⟩), (ofString "octets", iV (encI nm gd ed ps))],
  [.lst ((ps.flatMap guidsPl).map V.int)]⟩
structure LawOk (ps : List Pl) (nm : Str) (gd ed : Int) : Prop where
 n1 : nm.length ≤ 255
 n2 : ∀ z ∈ nm.cps.toList, 32 ≤ z ∧ z < 127
 g : 0 ≤ gd ∧ gd < 2 ^ 64
 e : 0 ≤ ed ∧ ed < 2 ^ 32
 p1 : 1 ≤ ps.length
 p3 : ps.length ≤ 3
 wf : ∀ p ∈ ps, wfPl p
 ok : ∀ p ∈ ps, okPl p = true
 sq : ∀ p ∈ ps, seqP p
noncomputable abbrev eL (Γ : Addr → Ctr) : Stmt → (DS → Prop) → QR → (Str → Prop) → DS → Prop := exStep theT Γ 40 false ncL (exs theT Γ 40 false ncL 19)
noncomputable def plT (pl : List (Str × V)) : Prop := pl = [] ∨ ∃ p, pl = [(ofString "plan", p)]
theorem no_mem {p : Pl} {P : Prop} (h : p ∈ ([] : List Pl)) : P := by cases h
theorem ff_tt {P : Prop} {b : Bool} (h : b = false) (q : b = true) : P := by rw [h] at q; cases q
theorem tt_ff {P : Prop} {b : Bool} (h : b = true) (q : b = false) : P := by rw [h] at q; cases q
theorem f392 {K : DS → Prop} {Rt : QR} {a b : V} {ps : List Pl} {nm : Str} {gd ed : Int} {pl : List (Str × V)} {mu : List M} (h380 : Γ 380 = k380) (hpl : plT pl) (hp2 : ps.length ≤ 3) (hps : ∀ p ∈ ps, wfPl p) (hk : okPs ps = false) (hr : ∀ st, Rt (.bool true) (some st)) :
  exl (eL Γ) (lawA.drop 8) K Rt NoX ⟨[(ofString "script", a), (ofString "digits", b), (ofString "plans", .lst (ps.map planV)), (ofString "name", .str nm), (ofString "guid", .int gd), (ofString "is_right", .bool false), (ofString "guids", .cel 0)] ++ pl ++ [(ofString "edition", .int ed)], mu⟩ := by
 rcases hpl with rfl | ⟨p, rfl⟩
 all_goals
  refine ca h380 (k380_mk nm _ _ ps rfl rfl hp2 hps (ff_tt hk) (fun _ => ?_))
  refine ca h380 (k380_mk nm _ _ [] rfl rfl (by decide) (fun p hp => no_mem hp) (ff_tt rfl) (fun _ => ?_))
  exact hr _
theorem t392 {K : DS → Prop} {Rt : QR} {ys : List Int} {d0 d1 : Int} {dr : List Int} {ps : List Pl} {nm : Str} {gd ed : Int} (h380 : Γ 380 = k380) (h351 : Γ 351 = k351) (O : LawOk ps nm gd ed) (hk : okPs ps = true) (hK : K (stL ys d0 d1 dr ps nm gd ed)) :
  exl (eL Γ) (lawA.drop 8) K Rt NoX ⟨[(ofString "script", iV ys), (ofString "digits", iV (d0 :: d1 :: dr)), (ofString "plans", .lst (ps.map planV)), (ofString "name", .str nm), (ofString "guid", .int gd), (ofString "is_right", .bool true), (ofString "guids", .cel 0), (ofString "plan", planV (ps.getLastD (.odd 0 0))), (ofString "edition", .int ed)], [.lst ((ps.flatMap guidsPl).map V.int)]⟩ := by
 refine ca h380 (k380_mk nm _ _ ps rfl rfl O.p3 O.wf (fun _ => ?_) (tt_ff hk))
 refine ca h380 (k380_mk nm _ _ [] rfl rfl (by decide) (fun p hp => no_mem hp) (ff_tt rfl) (fun _ => ?_))
 refine ca h351 (k351_mk nm _ _ ps rfl rfl O.n1 O.p3 (fun p hp => ⟨O.wf p hp, O.ok p hp⟩) ?_)
 exact hK
theorem m32 (a b : Int) (h : 0 < b) : 0 ≤ a.fmod b ∧ a.fmod b < b := ⟨Int.fmod_nonneg_of_pos _ h, Int.fmod_lt_of_pos _ h⟩
theorem c392 {K : DS → Prop} {Rt : QR} {a : V} {d0 d1 : Int} {dr : List Int} {ps : List Pl} {nm : Str} {gd : Int} {r : V} {pl : List (Str × V)} {mu : List M} (hpl : plT pl) {r0 : V} (er : r0 = r)
  (H : ∀ ed : Int, 0 ≤ ed ∧ ed < 2 ^ 32 → exl (eL Γ) (lawA.drop 8) K Rt NoX ⟨[(ofString "script", a), (ofString "digits", iV (d0 :: d1 :: dr)), (ofString "plans", .lst (ps.map planV)), (ofString "name", .str nm), (ofString "guid", .int gd), (ofString "is_right", r), (ofString "guids", .cel 0)] ++ pl ++ [(ofString "edition", .int ed)], mu⟩) :
  exl (eL Γ) (lawA.drop 7) K Rt NoX ⟨[(ofString "script", a), (ofString "digits", iV (d0 :: d1 :: dr)), (ofString "plans", .lst (ps.map planV)), (ofString "name", .str nm), (ofString "guid", .int gd), (ofString "is_right", r0), (ofString "guids", .cel 0)] ++ pl, mu⟩ := by
 subst er
 rcases hpl with rfl | ⟨p, rfl⟩
 all_goals
  refine br_dec (fun _ => ?_) (fun _ => ?_)
  ·refine kr ?_ (H 1 (by decide))
   kernel_rfl!
  ·refine kr ?_ (H ((d1.fdiv 5).fmod (2 ^ 32)) (m32 _ _ (by decide)))
   kernel_rfl!
theorem okPs_dec {ps : List Pl} (hp1 : 1 ≤ ps.length) (hall : ps.all okPl = true) : decide ((((ps.flatMap guidsPl).map V.int).length : Int) = ((metOf (ps.flatMap guidsPl)).length : Int)) = okPs ps := by
 rw [okPs, hall, guidsNs_of (all_eq_true.mp hall), length_map]
 cases ps with
 | nil => cases hp1
 | cons p ps => exact decide_eq_decide.mpr Int.ofNat_inj
theorem lp392 {K : DS → Prop} {Rt : QR} {ys : List Int} {d0 d1 : Int} {dr : List Int} {ps : List Pl} {nm : Str} {gd : Int} (h331 : Γ 331 = k331) (h380 : Γ 380 = k380) (h351 : Γ 351 = k351) (hr : ∀ st, Rt (.bool true) (some st)) (n1 : nm.length ≤ 255) (n2 : ∀ z ∈ nm.cps.toList, 32 ≤ z ∧ z < 127) (hg : 0 ≤ gd ∧ gd < 2 ^ 64) (hp1 : 1 ≤ ps.length) (hp2 : ps.length ≤ 3) (hps : ∀ p ∈ ps, wfPl p) (hsq : ∀ p ∈ ps, seqP p) (hK : ∀ ed, LawOk ps nm gd ed → K (stL ys d0 d1 dr ps nm gd ed)) (hall : ps.all okPl = true) {rb : Bool} (er : rb = true) :
  exl (eL Γ) (lawA.drop 4) K Rt NoX ⟨[(ofString "script", iV ys), (ofString "digits", iV (d0 :: d1 :: dr)), (ofString "plans", .lst (ps.map planV)), (ofString "name", .str nm), (ofString "guid", .int gd), (ofString "is_right", .bool rb)], []⟩ := by
 subst er
 have hok : ∀ p ∈ ps, okPl p = true := all_eq_true.mp hall
 refine lmm (loop_pre (fun pre => ⟨[(ofString "script", iV ys), (ofString "digits", iV (d0 :: d1 :: dr)), (ofString "plans", .lst (ps.map planV)), (ofString "name", .str nm), (ofString "guid", .int gd), (ofString "is_right", .bool true), (ofString "guids", .cel 0), (ofString "plan", planV (pre.getLastD (.odd 0 0)))], [.lst ((pre.flatMap guidsPl).map .int)]⟩) (fun pre x post e N hN => ?_) (fun x => rfl) (fun e => ?_) (fun _ => ?_))
 ·have hx : x ∈ ps := e ▸ mem_append_right _ (List.mem_cons_self ..)
  have l1 := guidsPs_len (ps := pre) fun p hp => hps p (e ▸ mem_append_left _ hp)
  have lx := pre_le e hp2
  have l2 := guidsPl_len (hps x hx)
  rw [flatMap_append, flatMap_cons, flatMap_nil, append_nil, lastD_app, map_append] at hN
  refine ⟨⟨.inr rfl, _, rfl⟩, ?_⟩
  refine caV h331 (celsOf_plan _) (k331_mk x rfl (ok_odd (hok x hx)) (hps x hx) rfl ?_)
  exact cL hN (by rw [length_map, length_map]; unfold lstLine; omega)
 ·rw [e] at hp1; cases hp1
 ·have lG := guidsPs_len hps
  have lI : ((ps.flatMap guidsPl).map V.int).length ≤ lstLine := by rw [length_map]; unfold lstLine; omega
  have hm : (metOf (ps.flatMap guidsPl)).length ≤ lstLine := Nat.le_trans (firstMet_length_le _ _) (length_map (as := ps.flatMap guidsPl) V.int ▸ lI)
  refine cL ?_ lI
  refine oE (intsOf_int _) ?_
  refine chk_le_mk (by omega) ?_
  refine cL ?_ hm
  refine c392 (.inr ⟨_, rfl⟩) (r := .bool (okPs ps)) (congrArg V.bool (okPs_dec hp1 hall)) fun ed he => ?_
  rcases Bool.eq_false_or_eq_true (okPs ps) with hk | hk
  ·rw [hk]
   have O : LawOk ps nm gd ed := ⟨n1, n2, hg, he, hp1, hp2, hps, hok, hsq⟩
   exact t392 h380 h351 O hk (hK ed O)
  ·rw [hk]; exact f392 h380 (.inr ⟨_, rfl⟩) hp2 hps hk hr
theorem lf392 {K : DS → Prop} {Rt : QR} {ys : List Int} {d0 d1 : Int} {dr : List Int} {ps : List Pl} {nm : Str} {gd : Int} (h331 : Γ 331 = k331) (h380 : Γ 380 = k380) (h351 : Γ 351 = k351) (hr : ∀ st, Rt (.bool true) (some st)) (n1 : nm.length ≤ 255) (n2 : ∀ z ∈ nm.cps.toList, 32 ≤ z ∧ z < 127) (hg : 0 ≤ gd ∧ gd < 2 ^ 64) (hp1 : 1 ≤ ps.length) (hp2 : ps.length ≤ 3) (hps : ∀ p ∈ ps, wfPl p) (hsq : ∀ p ∈ ps, seqP p) (hK : ∀ ed, LawOk ps nm gd ed → K (stL ys d0 d1 dr ps nm gd ed)) (hall : ps.all okPl = false) {rb : Bool} (er : rb = false) :
  exl (eL Γ) (lawA.drop 4) K Rt NoX ⟨[(ofString "script", iV ys), (ofString "digits", iV (d0 :: d1 :: dr)), (ofString "plans", .lst (ps.map planV)), (ofString "name", .str nm), (ofString "guid", .int gd), (ofString "is_right", .bool rb)], []⟩ := by
 subst er
 refine ⟨kr ?_ (c392 (K := K) (Rt := Rt) (a := iV ys) (d0 := d0) (d1 := d1) (dr := dr) (gd := gd) (nm := nm) (mu := [.lst []]) (.inl rfl) rfl fun ed _ => f392 h380 (.inl rfl) hp2 hps (by rw [okPs, hall, Bool.and_false, Bool.false_and]) hr)⟩
 kernel_rfl!
theorem b392 {K : DS → Prop} {Rt : QR} {ys : List Int} {d0 d1 : Int} {dr : List Int} {ps : List Pl} {nm : Str} {gd : Int} (h336 : Γ 336 = k336) (h331 : Γ 331 = k331) (h380 : Γ 380 = k380) (h351 : Γ 351 = k351) (hr : ∀ st, Rt (.bool true) (some st)) (n1 : nm.length ≤ 255) (n2 : ∀ z ∈ nm.cps.toList, 32 ≤ z ∧ z < 127) (hg : 0 ≤ gd ∧ gd < 2 ^ 64) (hp1 : 1 ≤ ps.length) (hp2 : ps.length ≤ 3) (hps : ∀ p ∈ ps, wfPl p) (hsq : ∀ p ∈ ps, seqP p) (hK : ∀ ed, LawOk ps nm gd ed → K (stL ys d0 d1 dr ps nm gd ed)) :
  exl (eL Γ) (lawA.drop 3) K Rt NoX ⟨[(ofString "script", iV ys), (ofString "digits", iV (d0 :: d1 :: dr)), (ofString "plans", .lst (ps.map planV)), (ofString "name", .str nm), (ofString "guid", .int gd)], []⟩ := by
 refine cmL (by unfold lstLine; omega) (compT_map (f := fun p => .bool (okPl p)) (fun p hp K hK => ?_) (fun _ _ => rfl) ?_)
 ·exact caV h336 (celsOf_plan _) (k336_mk p rfl (hps p hp) rfl hK)
 refine oE (boolsOf_map _ _) ?_
 have ea : ((ps.map okPl).all id) = ps.all okPl := by rw [List.all_map]; rfl
 rcases Bool.eq_false_or_eq_true (ps.all okPl) with hall | hall
 ·exact lp392 h331 h380 h351 hr n1 n2 hg hp1 hp2 hps hsq hK hall (ea.trans hall)
 ·exact lf392 h331 h380 h351 hr n1 n2 hg hp1 hp2 hps hsq hK hall (ea.trans hall)
theorem rep_add {l : List Int} {z : Int} {n : Nat} (h : z = (n : Int)) : l.map V.int ++ (List.replicate z.toNat [V.int 0]).flatten = (l ++ List.replicate n 0).map V.int := by
 subst h; rw [Int.toNat_natCast, rep_flat, map_append]
theorem nmv {d : Int} : ∃ nm : Str, nmL[(d.fmod 4).toNat]? = some (.str nm) ∧ nm.length ≤ 255 ∧ ∀ z ∈ nm.cps.toList, 32 ≤ z ∧ z < 127 := nm_get (by have := m32 d 4 (by decide); omega)
theorem ds_form {ds : List Int} {P : Prop} (h : 3 ≤ ds.length) (k : ∀ d0 d1 dr, ds = d0 :: d1 :: dr → P) : P := by
 cases ds with
 | nil => cases h
 | cons d0 l => cases l with
  | nil => exact absurd (show 3 ≤ 1 from h) (by decide)
  | cons d1 dr => exact k d0 d1 dr rfl
theorem p392 {ys : List Int} {d0 d1 : Int} {dr : List Int} {v : List V} {K : DS → Prop} {Rt : QR} (h319 : Γ 319 = k319) (h336 : Γ 336 = k336) (h331 : Γ 331 = k331) (h380 : Γ 380 = k380) (h351 : Γ 351 = k351) (ev : v = (d0 :: d1 :: dr).map V.int) (h1 : 1 ≤ dr.length) (h2 : dr.length ≤ 3) (hr : ∀ st, Rt (.bool true) (some st)) (hK : ∀ ps nm gd ed, LawOk ps nm gd ed → K (stL ys d0 d1 dr ps nm gd ed)) :
  exl (eL Γ) (lawA.drop 2) K Rt NoX ⟨[(ofString "script", iV ys), (ofString "digits", .lst v)], []⟩ := by
 subst ev
 have pd : pickV ((d0 :: d1 :: dr).map V.int) (some ((2 : Nat) : Int)) none none = dr.map V.int := (pick_drop _ 2 (by rw [length_map]; exact Nat.le_add_left 2 _)).trans rfl
 refine cL ?_ (by rw [length_map, length_cons, length_cons]; unfold lstLine; omega)
 refine full_e (congrArg (List.map _) pd) ?_ (cmm (compT_ang (fun p => wfPl p ∧ seqP p) planV (fun x hx K hK => ?_) (fun p _ => planV_cel p) (fun ps hpl hps => ?_)))
 ·rw [length_map, length_map]; unfold lstLine; omega
 ·exact ca h319 (k319_mk _ rfl rfl (m32 _ _ (by decide)) (fun p a b => hK p ⟨a, b⟩))
 obtain ⟨nm, enm, hn1, hn2⟩ := nmv (d := d0)
 have m0 := m32 d0 4 (by decide)
 refine chk_mk (natLt_iff.mpr ⟨m0.1, Int.lt_trans m0.2 (by decide)⟩) ?_
 refine oE enm ?_
 have hpl : ps.length = dr.length := hpl
 refine kr ?_ (b392 (K := K) (Rt := Rt) (ys := ys) (d0 := d0) (d1 := d1) (dr := dr) (gd := d1.fmod (2 ^ 64)) h336 h331 h380 h351 hr hn1 hn2 (m32 _ _ (by decide)) (hpl ▸ h1) (hpl ▸ h2) (fun p hp => (hps p hp).1) (fun p hp => (hps p hp).2) (fun ed O => hK _ _ _ ed O))
 kernel_rfl!
theorem q392 {ys : List Int} {v : List V} {K : DS → Prop} {Rt : QR} (h319 : Γ 319 = k319) (h336 : Γ 336 = k336) (h331 : Γ 331 = k331) (h380 : Γ 380 = k380) (h351 : Γ 351 = k351) (ev : v = ys.map V.int) (hl : ys.length ≤ 63) (hr : ∀ st, Rt (.bool true) (some st)) (hK : ∀ ys d0 d1 dr ps nm gd ed, LawOk ps nm gd ed → K (stL ys d0 d1 dr ps nm gd ed)) :
  exl (eL Γ) (lawA.drop 1) K Rt NoX ⟨[(ofString "script", .lst v)], []⟩ := by
 subst ev
 have p5 : pickV (ys.map V.int) none (some ((5 : Nat) : Int)) none = (ys.take 5).map V.int := by rw [pick_take, List.map_take]
 have l5 : (pickV (ys.map V.int) none (some ((5 : Nat) : Int)) none).length ≤ 5 := by rw [p5, length_map, length_take]; exact Nat.min_le_left _ _
 have em : (if 3 - ((ys.map V.int).length : Int) > 0 then 3 - ((ys.map V.int).length : Int) else 0) = ((3 - ys.length : Nat) : Int) := by rw [length_map]; split <;> omega
 have e : pickV (ys.map V.int) none (some ((5 : Nat) : Int)) none ++ (List.replicate (if 3 - ((ys.map V.int).length : Int) > 0 then 3 - ((ys.map V.int).length : Int) else 0).toNat [V.int 0]).flatten = (ys.take 5 ++ List.replicate (3 - ys.length) 0).map V.int := p5 ▸ rep_add em
 have ld : (ys.take 5 ++ List.replicate (3 - ys.length) (0 : Int)).length = min 5 ys.length + (3 - ys.length) := by rw [length_append, length_take, List.length_replicate]
 have le := length_append.symm.trans ((congrArg List.length e).trans ((length_map _).trans ld))
 have lm : (ys.map V.int).length ≤ lstLine := by rw [length_map]; unfold lstLine; omega
 refine cL ?_ lm
 refine cL ?_ (Nat.le_trans l5 (by decide))
 refine cL ?_ lm
 refine chk_mk (absLt_iff.mpr (em ▸ by omega)) ?_
 refine chk_le_mk (m := lstLine) (Nat.le_trans (Nat.le_of_eq le) (by unfold lstLine; omega)) ?_
 refine ds_form (ds := ys.take 5 ++ List.replicate (3 - ys.length) 0) (by omega) fun d0 d1 dr ed => ?_
 rw [ed] at ld e
 have ld : dr.length + 2 = _ := ld
 refine kr ?_ (p392 (K := K) (Rt := Rt) (ys := ys) h319 h336 h331 h380 h351 e (by omega) (by omega) hr (hK ys d0 d1 dr))
 kernel_rfl!
noncomputable def lawH : Stmt := (fB (stN 46)).headD default
theorem h392 {xs : List Int} {K : DS → Prop} {Rt : QR} (hl : xs.length ≤ 63) (h : K ⟨[(ofString "script", .lst (pickV (xs.map V.int) none (some ((63 : Nat) : Int)) none))], []⟩) : eL Γ lawH K Rt NoX ⟨[(ofString "script", iV xs)], []⟩ := by
 refine cL ?_ (by rw [length_map]; unfold lstLine; omega)
 exact h
theorem lawA_eq : lawA = lawH :: lawA.drop 1 := by kernel_rfl!
theorem exl_cons {f : Stmt → (DS → Prop) → QR → (Str → Prop) → DS → Prop} {s : Stmt} {ss : List Stmt} {Rt : QR} {st : DS} (h : f s (fun st => exl f ss N Rt X st) Rt X st) : exl f (s :: ss) N Rt X st := h
theorem pre392 {xs : List Int} {K : DS → Prop} {Rt : QR} (h319 : Γ 319 = k319) (h336 : Γ 336 = k336) (h331 : Γ 331 = k331) (h380 : Γ 380 = k380) (h351 : Γ 351 = k351) (hl : xs.length ≤ 63) (hr : ∀ st, Rt (.bool true) (some st)) (hK : ∀ ys d0 d1 dr ps nm gd ed, LawOk ps nm gd ed → K (stL ys d0 d1 dr ps nm gd ed)) :
  exl (eL Γ) lawA K Rt NoX ⟨[(ofString "script", iV xs)], []⟩ := by
 rw [lawA_eq]
 exact exl_cons (h392 hl (q392 (ys := xs.take 63) h319 h336 h331 h380 h351 ((pick_take (xs.map V.int) 63).trans List.map_take.symm) (by rw [length_take]; exact Nat.min_le_left _ _) hr hK))
noncomputable def bt (l : List Int) : List UInt8 := l.map fun n => n.toNat.toUInt8
theorem bt_app (a b : List Int) : bt (a ++ b) = bt a ++ bt b := map_append
theorem bt_len (a : List Int) : (bt a).length = a.length := length_map _
noncomputable def octI (l : List Int) : Prop := ∀ n ∈ l, 0 ≤ n ∧ n < 256
theorem toNat_u8 {n : Int} (h : 0 ≤ n ∧ n < 256) : ((n.toNat.toUInt8).toNat : Int) = n := by
 have : n.toNat < 256 := by omega
 have e : (n.toNat.toUInt8).toNat = n.toNat := by
  show (UInt8.ofNat n.toNat).toNat = n.toNat
  rw [UInt8.toNat_ofNat']
  exact Nat.mod_eq_of_lt this
 rw [e]; omega
theorem toI_bt {l : List Int} (h : octI l) : toI (bt l) = l := by
 induction l with
 | nil => rfl
 | cons n l ih =>
  show ((n.toNat.toUInt8).toNat : Int) :: toI (bt l) = _
  rw [toNat_u8 (h n (.head _)), ih fun m hm => h m (.tail _ hm)]
theorem digits_succ (a : Int) (n : Nat) (ha : 0 ≤ a) : digitsL a (n + 1) = (a % 256) :: digitsL (a / 256) n := by
 rw [digitsL, List.range_succ_eq_map, map_cons, map_map, digitsL]
 congr 1
 ·rw [Int.pow_zero, Int.fdiv_one, Int.fmod_eq_emod_of_nonneg _ (by decide)]
 ·apply List.map_congr_left
  intro k _
  have h1 : (0 : Int) ≤ 256 ^ k := Int.pow_nonneg (by decide)
  show (a.fdiv (256 ^ (k + 1))).fmod 256 = ((a / 256).fdiv (256 ^ k)).fmod 256
  rw [Int.fdiv_eq_ediv_of_nonneg _ (Int.pow_nonneg (by decide)), Int.fdiv_eq_ediv_of_nonneg _ h1, Int.pow_succ, Int.mul_comm, Int.ediv_ediv_of_nonneg (by decide)]
theorem digits_oct (a : Int) (n : Nat) : octI (digitsL a n) := fun m hm => by
 obtain ⟨k, _, rfl⟩ := mem_map.mp hm
 exact ⟨Int.fmod_nonneg_of_pos _ (by decide), Int.fmod_lt_of_pos _ (by decide)⟩
theorem numLE_digits : ∀ (n : Nat) (a : Int), 0 ≤ a ∧ a < 256 ^ n → numLE (bt (digitsL a n)) = a
 | 0, a, h => by
  have : a = 0 := by have := h.2; rw [Int.pow_zero] at this; omega
  subst this; rfl
 | n + 1, a, h => by
  rw [digits_succ a n h.1]
  show ((((a % 256).toNat.toUInt8).toNat : Nat) : Int) + 256 * numLE (bt (digitsL (a / 256) n)) = a
  have h2 := h.2
  rw [Int.pow_succ] at h2
  rw [toNat_u8 (by omega), numLE_digits n (a / 256) ⟨by omega, by omega⟩]
  omega
theorem dg_len' (a : Int) (n : Nat) : (digitsL a n).length = n := by rw [digitsL, length_map, length_range]
theorem drop_len {L B : List UInt8} {k : Nat} {l : List Int} (h : L.drop k = bt l ++ B) (hl : 0 < l.length) : k + l.length ≤ L.length := by
 have := congrArg List.length h
 rw [length_drop, length_append, bt_len] at this
 omega
theorem drop_more {L B : List UInt8} {k n : Nat} {l : List Int} (h : L.drop k = bt l ++ B) (hl : l.length = n) : L.drop (k + n) = B := by
 rw [← List.drop_drop, h, List.drop_left' (by rw [bt_len, hl])]
theorem hd_nb {L B : List UInt8} {k n : Nat} {a : Int} (h : L.drop k = bt (digitsL a n) ++ B) (ha : 0 ≤ a ∧ a < 256 ^ n) : nb L k n = a := by
 rw [nb, h, List.take_left' (by rw [bt_len, dg_len']), numLE_digits n a ha]
theorem hd_nb1 {L B : List UInt8} {k : Nat} {a : Int} (h : L.drop k = bt [a] ++ B) (ha : 0 ≤ a ∧ a < 256) : nb L k 1 = a := by
 rw [← dig1 ha] at h
 exact hd_nb h (by simpa using ha)
theorem split_bt {L B : List UInt8} {k : Nat} {a b : List Int} (h : L.drop k = bt (a ++ b) ++ B) : L.drop k = bt a ++ (bt b ++ B) := by rw [h, bt_app, append_assoc]
theorem rdIn_enc {L B : List UInt8} {k : Nat} {g : Int} (h : L.drop k = bt (encDsk g) ++ B) (hg : okG g) : rdIn L k = some (g, k + 7) ∧ L.drop (k + 7) = B := by
 have l7 := drop_len h (by rw [encDsk_len]; decide)
 rw [encDsk_len] at l7
 have h7 := drop_more h (encDsk_len g)
 have e : encDsk g = [0] ++ (digitsL g 4 ++ ([0] ++ [0])) := by simp [encDsk, dg]
 rw [e] at h
 have a0 := split_bt h
 have a1 := drop_more a0 (n := 1) rfl
 rw [bt_app, append_assoc] at a1
 have a5 := drop_more a1 (dg_len' g 4)
 rw [bt_app, append_assoc] at a5
 have a6 := drop_more a5 (n := 1) rfl
 refine ⟨?_, h7⟩
 rw [rdIn, if_pos ⟨l7, hd_nb1 a0 (by decide), hd_nb1 (k := k + 5) a5 (by decide), hd_nb1 (k := k + 6) a6 (by decide)⟩, hd_nb a1 hg]
theorem rdIns_enc {L : List UInt8} : ∀ (gs : List Int) (k : Nat) (B : List UInt8), L.drop k = bt (gs.flatMap encDsk) ++ B → (∀ g ∈ gs, okG g) → rep (rdIn L) gs.length k = some (gs, k + 7 * gs.length) ∧ L.drop (k + 7 * gs.length) = B
 | [], k, B, h, _ => ⟨rfl, h⟩
 | g :: gs, k, B, h, hg => by
  rw [flatMap_cons] at h
  obtain ⟨e1, h1⟩ := rdIn_enc (split_bt h) (hg g (.head _))
  obtain ⟨e2, h2⟩ := rdIns_enc gs (k + 7) B h1 fun x hx => hg x (.tail _ hx)
  rw [length_cons, rep, e1, Option.bind_some, e2, Option.bind_some]
  have e : k + 7 * (gs.length + 1) = k + 7 + 7 * gs.length := by omega
  rw [e]
  exact ⟨rfl, h2⟩
theorem rdTop_enc {L B : List UInt8} {k : Nat} {n : Nd} (h : L.drop k = bt (encN n) ++ B) (hn : okN n) (ho : okHead n.s n.p n.cs.length = true) : rdTop L k = some (n, k + (encN n).length) ∧ L.drop (k + (encN n).length) = B := by
 obtain ⟨s, g, p, cs⟩ := n
 obtain ⟨h1, h2, h3, h4, h5⟩ := hn
 change s ≤ 2 at h1
 change okG g at h2
 change 0 ≤ p ∧ p < 256 at h3
 change cs.length ≤ 8 at h4
 change ∀ g ∈ cs, okG g at h5
 have hT := drop_more h rfl
 have e : encN ⟨s, g, p, cs⟩ = [(s : Int)] ++ (digitsL g 4 ++ ([p] ++ ([(cs.length : Int)] ++ cs.flatMap encDsk))) := by simp [encN]
 have lE : (encN ⟨s, g, p, cs⟩).length = 7 + 7 * cs.length := by rw [e]; simp only [length_append, dg_len', flatDsk_len, length_cons, length_nil]; omega
 have l7 := drop_len h (by rw [lE]; omega)
 rw [lE] at l7
 rw [e] at h
 have a0 := split_bt h
 have a1 := drop_more a0 (n := 1) rfl
 rw [bt_app, append_assoc] at a1
 have a5 := drop_more a1 (dg_len' g 4)
 rw [bt_app, append_assoc] at a5
 have a6 := drop_more a5 (n := 1) rfl
 rw [bt_app, append_assoc] at a6
 have a7 := drop_more a6 (n := 1) rfl
 have n0 := hd_nb1 a0 (by omega)
 have n5 := hd_nb1 (k := k + 5) a5 h3
 have n6 := hd_nb1 (k := k + 6) a6 (by omega)
 obtain ⟨r1, r2⟩ := rdIns_enc cs (k + 7) B a7 h5
 refine ⟨?_, hT⟩
 rw [rdTop, n0, n5, n6, if_pos ⟨by omega, ho⟩, Int.toNat_natCast, r1, Option.bind_some, hd_nb a1 h2, Int.toNat_natCast, lE]
 have : k + (7 + 7 * cs.length) = k + 7 + 7 * cs.length := by omega
 rw [this]
theorem rdTops_enc {L : List UInt8} : ∀ (ns : List Nd) (k : Nat) (B : List UInt8), L.drop k = bt (ns.flatMap encN) ++ B → (∀ n ∈ ns, okN n ∧ okHead n.s n.p n.cs.length = true) → ∃ k', rep (rdTop L) ns.length k = some (ns, k')
 | [], k, B, h, _ => ⟨k, rfl⟩
 | n :: ns, k, B, h, hn => by
  rw [flatMap_cons] at h
  obtain ⟨e1, h1⟩ := rdTop_enc (split_bt h) (hn n (.head _)).1 (hn n (.head _)).2
  obtain ⟨k', e2⟩ := rdTops_enc ns _ B h1 fun x hx => hn x (.tail _ hx)
  exact ⟨k', by rw [length_cons, rep, e1, Option.bind_some, e2, Option.bind_some]⟩
theorem rdCfg_enc {c : Cfg} {t : List UInt8} (hc : okC c) (h1 : c.tops ≠ []) (hn : ∀ n ∈ c.tops, okHead n.s n.p n.cs.length = true) : rdCfg (bt (encC c) ++ t) = some c := by
 obtain ⟨name, g, ed, tops⟩ := c
 obtain ⟨c1, c2, c3, c4, c5, c6⟩ := hc
 change name.length ≤ 255 at c1
 change ∀ z ∈ name.cps.toList, 32 ≤ z ∧ z < 127 at c2
 change 0 ≤ g ∧ g < 2 ^ 64 at c3
 change 0 ≤ ed ∧ ed < 2 ^ 32 at c4
 change tops.length ≤ 3 at c5
 change ∀ n ∈ tops, okN n at c6
 change tops ≠ [] at h1
 change ∀ n ∈ tops, okHead n.s n.p n.cs.length = true at hn
 have nl : name.cps.toList.length = name.length := Array.length_toList
 have hp : 0 < tops.length := List.length_pos_iff.mpr h1
 have e : encC ⟨name, g, ed, tops⟩ = digitsL 1953654117 4 ++ ([1] ++ ([(name.length : Int)] ++ ((name.cps.toList.map fun z : Nat => (z : Int)) ++ (digitsL g 8 ++ (digitsL ed 4 ++ ([(tops.length : Int)] ++ tops.flatMap encN)))))) := by simp [encC, encT]
 have lC : (encC ⟨name, g, ed, tops⟩).length = 19 + name.length + (tops.flatMap encN).length := by
  rw [e]; simp only [length_append, dg_len', length_cons, length_nil, length_map, nl]; omega
 obtain ⟨L, hL⟩ : ∃ L, L = bt (encC ⟨name, g, ed, tops⟩) ++ t := ⟨_, rfl⟩
 rw [← hL]
 have a0 : L.drop 0 = bt (encC ⟨name, g, ed, tops⟩) ++ t := by rw [hL]; rfl
 have lE := drop_len a0 (by rw [lC]; omega)
 clear hL
 rw [lC] at lE
 rw [e] at a0
 have b0 := split_bt a0
 have a4 := drop_more b0 (dg_len' _ 4)
 rw [bt_app, append_assoc] at a4
 have a5 := drop_more a4 (n := 1) rfl
 rw [bt_app, append_assoc] at a5
 have a6 := drop_more a5 (n := 1) rfl
 rw [bt_app, append_assoc] at a6
 have a7 := drop_more a6 (n := name.length) (by rw [length_map, nl])
 rw [bt_app, append_assoc] at a7
 have a8 := drop_more a7 (dg_len' g 8)
 rw [bt_app, append_assoc] at a8
 have a9 := drop_more a8 (dg_len' ed 4)
 rw [bt_app, append_assoc] at a9
 have a10 := drop_more a9 (n := 1) rfl
 have n0 : nb L 0 4 = 1953654117 := hd_nb b0 (by decide)
 have n4 : nb L 4 1 = 1 := hd_nb1 (k := 4) a4 (by decide)
 have n5 : nb L 5 1 = (name.length : Int) := hd_nb1 (k := 5) a5 (by omega)
 have tk : (L.drop 6).take name.length = bt (name.cps.toList.map fun z : Nat => (z : Int)) := by
  rw [show L.drop 6 = _ from a6, List.take_left' (by rw [bt_len, length_map, nl])]
 have oc : octI (name.cps.toList.map fun z : Nat => (z : Int)) := fun m hm => by
  obtain ⟨z, hz, rfl⟩ := mem_map.mp hm
  have := c2 z hz
  omega
 have pr : prn (bt (name.cps.toList.map fun z : Nat => (z : Int))) = true := by
  rw [prn, all_eq_true]
  intro c hc
  have : (c.toNat : Int) ∈ toI (bt (name.cps.toList.map fun z : Nat => (z : Int))) := mem_map_of_mem hc
  rw [toI_bt oc] at this
  obtain ⟨z, hz, ez⟩ := mem_map.mp this
  have := c2 z hz
  rw [← ez, decide_eq_true (by omega), decide_eq_true (by omega)]
  rfl
 have sn : strL (bt (name.cps.toList.map fun z : Nat => (z : Int))) = name := by
  have : (bt (name.cps.toList.map fun z : Nat => (z : Int))).map (fun c => c.toNat) = name.cps.toList := by
   rw [bt, map_map, map_map]
   have : name.cps.toList.map (((fun c : UInt8 => c.toNat) ∘ fun n : Int => n.toNat.toUInt8) ∘ fun z : Nat => (z : Int)) = name.cps.toList.map id := by
    apply List.map_congr_left
    intro z hz
    have hz := c2 z hz
    have := toNat_u8 (n := (z : Int)) (by omega)
    show ((z : Int).toNat.toUInt8).toNat = z
    omega
   rw [this, List.map_id]
  rw [strL, this]
 have n12 : nb L (6 + name.length + 12) 1 = (tops.length : Int) := hd_nb1 (k := 6 + name.length + 8 + 4) a9 (by omega)
 obtain ⟨k', rk⟩ := rdTops_enc tops (6 + name.length + 13) t a10 fun n hn' => ⟨c6 n hn', hn n hn'⟩
 have rT : rdT L 5 = some (bt (name.cps.toList.map fun z : Nat => (z : Int)), 6 + name.length) := by
  rw [rdT, n5, Int.toNat_natCast]
  rw [show 5 + 1 = 6 from rfl, tk, if_pos ⟨by omega, by omega, pr⟩]
 rw [rdCfg, if_pos ⟨by omega, n0, n4⟩, rT, Option.bind_some]
 show (if 6 + name.length + 13 ≤ L.length ∧ nb L (6 + name.length + 12) 1 ≠ 0 then (rep (rdTop L) (nb L (6 + name.length + 12) 1).toNat (6 + name.length + 13)).bind _ else none) = _
 rw [n12, if_pos ⟨by omega, by omega⟩, Int.toNat_natCast, rk, Option.bind_some]
 have n7 : nb L (6 + name.length) 8 = g := hd_nb a7 c3
 have n8 : nb L (6 + name.length + 8) 4 = ed := hd_nb a8 c4
 simp only [sn, n7, n8]
section
theorem numD_ok {gs : List Int} {p : Int} (hp : 0 ≤ p ∧ p ≤ 255) : okG (numD gs p) := fold_rng gs (17 + p) (by omega)
theorem encN_of {p : Pl} (hw : wfPl p) (ho : okPl p = true) : encN (nodeOf p) = encPl p := by
 cases p with
 | odd => cases ho
 | disk g => simp [encN, nodeOf, encPl, encDsk, dg]
 | mir gs => simp only [encN, nodeOf, encPl, dg, numD_law (gs := gs) (p := 0) (by decide)]; rfl
 | rz q gs =>
  have := hw.2.1
  simp only [encN, nodeOf, encPl, dg, numD_law (gs := gs) (p := q) ⟨by omega, by omega⟩]; rfl
theorem okN_of {p : Pl} (hw : wfPl p) (ho : okPl p = true) : okN (nodeOf p) := by
 cases p with
 | odd => cases ho
 | disk g => exact ⟨(by decide : 0 ≤ 2), hw, (by decide : (0 : Int) ≤ 0 ∧ (0 : Int) < 256), (by decide : 0 ≤ 8), fun g hg => by cases hg⟩
 | mir gs => exact ⟨(by decide : 1 ≤ 2), numD_ok (by decide), (by decide : (0 : Int) ≤ 0 ∧ (0 : Int) < 256), hw.1, hw.2⟩
 | rz q gs =>
  have := hw.2.1
  exact ⟨(by decide : 2 ≤ 2), numD_ok ⟨by omega, by omega⟩, ⟨by show 0 ≤ q; omega, by show q < 256; omega⟩, hw.1, hw.2.2⟩
theorem okHead_of {p : Pl} (ho : okPl p = true) : okHead (nodeOf p).s (nodeOf p).p (nodeOf p).cs.length = true := by
 cases p with
 | odd => cases ho
 | disk g => rfl
 | mir gs =>
  have ho : Nat.ble 2 gs.length = true := ho
  have h2 := Nat.le_of_ble_eq_true ho
  show okHead ((1 : Nat) : Int) 0 (gs.length : Int) = true
  unfold okHead
  rw [decide_eq_true (show (2 : Int) ≤ gs.length by omega)]
  rfl
 | rz q gs =>
  simp only [okPl, Bool.and_eq_true, decide_eq_true_eq] at ho
  show okHead ((2 : Nat) : Int) q (gs.length : Int) = true
  unfold okHead
  rw [decide_eq_true ho.1.1, decide_eq_true ho.1.2, decide_eq_true ho.2]
  simp
theorem encNs_of : ∀ {ps : List Pl}, (∀ p ∈ ps, wfPl p) → (∀ p ∈ ps, okPl p = true) → (ps.map nodeOf).flatMap encN = ps.flatMap encPl
 | [], _, _ => rfl
 | p :: ps, h, h' => by
  rw [map_cons, flatMap_cons, flatMap_cons, encN_of (h p (.head _)) (h' p (.head _)), encNs_of (ps := ps) (fun q hq => h q (.tail _ hq)) fun q hq => h' q (.tail _ hq)]
section
variable {ps : List Pl} {nm : Str} {gd ed : Int}
theorem LawOk.enc (O : LawOk ps nm gd ed) : encC ⟨nm, gd, ed, ps.map nodeOf⟩ = encI nm gd ed ps := by
 simp only [encC, encI, encNs_of O.wf O.ok, encT, encH, dg, length_map]
 simp
theorem LawOk.okC (O : LawOk ps nm gd ed) : Mine.okC ⟨nm, gd, ed, ps.map nodeOf⟩ :=
 ⟨O.n1, O.n2, O.g, O.e, by show (ps.map nodeOf).length ≤ 3; rw [length_map]; exact O.p3, fun n hn => by
  obtain ⟨p, hp, rfl⟩ := mem_map.mp hn
  exact okN_of (O.wf p hp) (O.ok p hp)⟩
theorem LawOk.read (O : LawOk ps nm gd ed) (t : List UInt8) : rdCfg (bt (encI nm gd ed ps) ++ t) = some ⟨nm, gd, ed, ps.map nodeOf⟩ := by
 rw [← O.enc]
 refine rdCfg_enc O.okC (fun e => ?_) fun n hn => ?_
 ·have := congrArg List.length e
  simp only [length_map, length_nil] at this
  have := O.p1
  omega
 ·obtain ⟨p, hp, rfl⟩ := mem_map.mp hn
  exact okHead_of (O.ok p hp)
theorem octI_app {a b : List Int} (ha : octI a) (hb : octI b) : octI (a ++ b) := fun n hn => (mem_append.mp hn).elim (ha n) (hb n)
theorem octI_one {a : Int} (h : 0 ≤ a ∧ a < 256) : octI [a] := fun n hn => by obtain rfl := mem_singleton.mp hn; exact h
theorem octI_two {a b : Int} (h : 0 ≤ a ∧ a < 256) (h' : 0 ≤ b ∧ b < 256) : octI [a, b] := octI_app (a := [a]) (octI_one h) (octI_one h')
theorem octI_flat {α : Type} {f : α → List Int} {l : List α} (h : ∀ x ∈ l, octI (f x)) : octI (l.flatMap f) := fun n hn => by
 obtain ⟨x, hx, hn⟩ := List.mem_flatMap.mp hn
 exact h x hx n hn
theorem encDsk_oct (g : Int) : octI (encDsk g) := octI_app (octI_app (octI_one (by decide)) (digits_oct _ _)) (octI_two (by decide) (by decide))
theorem encPl_oct {p : Pl} (hw : wfPl p) (ho : okPl p = true) : octI (encPl p) := by
 cases p with
 | odd => cases ho
 | disk g => exact encDsk_oct g
 | mir gs =>
  have := hw.1
  exact octI_app (octI_app (octI_app (octI_one (by decide)) (digits_oct _ _)) (octI_two (by decide) ⟨by omega, by omega⟩)) (octI_flat fun g _ => encDsk_oct g)
 | rz q gs =>
  have := hw.1
  have := hw.2.1
  exact octI_app (octI_app (octI_app (octI_one (by decide)) (digits_oct _ _)) (octI_two ⟨by omega, by omega⟩ ⟨by omega, by omega⟩)) (octI_flat fun g _ => encDsk_oct g)
theorem LawOk.oct (O : LawOk ps nm gd ed) : octI (encI nm gd ed ps) := by
 have h1 := O.n1
 have h2 := O.p3
 refine octI_app (octI_app (octI_app (octI_app (octI_app (octI_app (digits_oct _ _) (octI_two (by decide) ⟨by omega, by omega⟩)) fun n hn => ?_) (digits_oct _ _)) (digits_oct _ _)) (octI_one ⟨by omega, by omega⟩)) (octI_flat fun p hp => encPl_oct (O.wf p hp) (O.ok p hp))
 obtain ⟨z, hz, rfl⟩ := mem_map.mp hn
 have := O.n2 z hz
 omega
theorem LawOk.len (O : LawOk ps nm gd ed) : (encI nm gd ed ps).length ≤ 700 := by
 have h1 := encH_len nm gd ed ps.length
 have h2 := flatPl_len O.wf
 have h3 := O.n1
 have h4 := O.p3
 rw [encI, length_append]
 omega
end
end
theorem toPy_cfgM (mu : List M) (c : Cfg) : toPyM mu (cfgP c) = some (cfgD c) := toPyM_out mu (some c)
noncomputable def body14 : List Stmt := match (fB (stN 46))[14]? with
 | some (PySem.Stmt.For _ _ b _ _) => b
 | _ => []
noncomputable abbrev stP (a b c d e f v x y z : V) (mu : List M) : DS := ⟨[(ofString "script", a), (ofString "digits", b), (ofString "plans", c), (ofString "name", d), (ofString "guid", e), (ofString "is_right", f), (ofString "guids", .cel 0), (ofString "plan", v), (ofString "edition", x), (ofString "config", y), (ofString "octets", z)], mu⟩
theorem l14d {a b c d e f x y z : V} {mu : List M} {g : Int} {Rt : QR} (h : N (stP a b c d e f (dskV g) x y z mu)) :
  exs theT Γ 40 false ncL 19 body14 N Rt NoX (stP a b c d e f (dskV g) x y z mu) := h
theorem dsk_rev (gs : List Int) : pickV (gs.map dskV) none none (some (-1)) = gs.reverse.map dskV := (pickV_rev _).trans List.map_reverse.symm
theorem l14m {a b c d e f x y z : V} {mu : List M} {gs : List Int} {Rt : QR} (h258 : Γ 258 = k258) (hw : wfPl (.mir gs)) (ho : okPl (.mir gs) = true) (hne : numD gs 0 ≠ numD gs.reverse 0) (h : N (stP a b c d e f (planV (.mir gs)) x y z mu)) :
  exs theT Γ 40 false ncL 19 body14 N Rt NoX (stP a b c d e f (planV (.mir gs)) x y z mu) := by
 have hl := hw.1
 have lr : gs.reverse.length = gs.length := length_reverse
 have ho' : okPl (.mir gs.reverse) = true := (congrArg (Nat.ble 2) lr).trans ho
 refine ca h258 (k258_mk (.mir gs) rfl hw rfl (fun _ => ?_) (tt_ff ho))
 refine cL ?_ (by rw [length_map]; unfold lstLine; omega)
 refine ca h258 (k258_mk (.mir gs.reverse) (congrArg (fun l => [V.tup [.str (ofString "mirror"), .lst l]]) (dsk_rev gs)) ⟨lr ▸ hl, fun g hg => hw.2 g (List.mem_reverse.mp hg)⟩ rfl (fun _ => ?_) (tt_ff ho'))
 exact br_dec (fun e => absurd e hne) (fun _ => h)
theorem l14r {a b c d e f x y z : V} {mu : List M} {p : Int} {gs : List Int} {Rt : QR} (h258 : Γ 258 = k258) (hw : wfPl (.rz p gs)) (ho : okPl (.rz p gs) = true) (hne : numD gs p ≠ numD gs.reverse p) (h : N (stP a b c d e f (planV (.rz p gs)) x y z mu)) :
  exs theT Γ 40 false ncL 19 body14 N Rt NoX (stP a b c d e f (planV (.rz p gs)) x y z mu) := by
 have hl := hw.1
 have lr : gs.reverse.length = gs.length := length_reverse
 have ho' : okPl (.rz p gs.reverse) = true := (congrArg (fun n : Nat => (decide (1 ≤ p) && decide (p ≤ 3) && decide (p < (n : Int)))) lr).trans ho
 refine ca h258 (k258_mk (.rz p gs) rfl hw rfl (fun _ => ?_) (tt_ff ho))
 refine cL ?_ (by rw [length_map]; unfold lstLine; omega)
 refine ca h258 (k258_mk (.rz p gs.reverse) (congrArg (fun l => [V.tup [.str (ofString "raidz"), .int p, .lst l]]) (dsk_rev gs)) ⟨lr ▸ hl, hw.2.1, fun g hg => hw.2.2 g (List.mem_reverse.mp hg)⟩ rfl (fun _ => ?_) (tt_ff ho'))
 exact br_dec (fun e => absurd e hne) (fun _ => h)
theorem LawOk.seq {ps : List Pl} {nm : Str} {gd ed : Int} (O : LawOk ps nm gd ed) {p : Int} {gs : List Int} (h : .mir gs ∈ ps ∧ p = 0 ∨ .rz p gs ∈ ps) : numD gs p ≠ numD gs.reverse p := by
 have key : ∃ a n, gs = disksL a n ∧ 2 ≤ gs.length ∧ gs.length ≤ 8 := by
  rcases h with ⟨h, rfl⟩ | h
  ·obtain ⟨a, n, e⟩ := O.sq _ h
   exact ⟨a, n, e, Nat.le_of_ble_eq_true (O.ok _ h), (O.wf _ h).1⟩
  ·obtain ⟨a, n, e⟩ := O.sq _ h
   have ho := O.ok _ h
   have ho : (decide (1 ≤ p) && decide (p ≤ 3) && decide (p < (gs.length : Int))) = true := ho
   have h1 := of_decide_eq_true (Bool.and_eq_true_iff.mp (Bool.and_eq_true_iff.mp ho).1).1
   have h2 := of_decide_eq_true (Bool.and_eq_true_iff.mp ho).2
   exact ⟨a, n, e, by omega, (O.wf _ h).1⟩
 obtain ⟨a, n, rfl, h1, h2⟩ := key
 rw [disksL, length_map, length_range] at h1 h2
 exact rev_num ⟨h1, h2⟩
noncomputable abbrev stQ (ys : List Int) (d0 d1 : Int) (dr : List Int) (ps : List Pl) (nm : Str) (gd ed : Int) (v : V) : DS := stP (iV ys) (iV (d0 :: d1 :: dr)) (.lst (ps.map planV)) (.str nm) (.int gd) (.bool true) v (.int ed) (cfgV ⟨nm, gd, ed, ps.map nodeOf⟩) (iV (encI nm gd ed ps)) [.lst ((ps.flatMap guidsPl).map V.int)]
theorem l14 {ys : List Int} {d0 d1 : Int} {dr : List Int} {ps : List Pl} {nm : Str} {gd ed : Int} {Rt : QR} (O : LawOk ps nm gd ed) (h258 : Γ 258 = k258) {x : Pl} (hx : x ∈ ps) (hn : N (stQ ys d0 d1 dr ps nm gd ed (planV x))) :
  exs theT Γ 40 false ncL 19 body14 N Rt NoX (stQ ys d0 d1 dr ps nm gd ed (planV x)) := by
 cases x with
 | odd => cases O.ok _ hx
 | disk g => exact l14d hn
 | mir gs => exact l14m h258 (O.wf _ hx) (O.ok _ hx) (O.seq (p := 0) (.inl ⟨hx, rfl⟩)) hn
 | rz p gs => exact l14r h258 (O.wf _ hx) (O.ok _ hx) (O.seq (.inr hx)) hn
theorem e392 {ys : List Int} {d0 d1 : Int} {dr : List Int} {ps : List Pl} {nm : Str} {gd ed : Int} {v : V} {Rt : QR} (O : LawOk ps nm gd ed) (h387 : Γ 387 = k387) (hr : ∀ st, Rt (.bool true) (some st)) :
  exl (eL Γ) (lawB.drop 2) N Rt NoX (stQ ys d0 d1 dr ps nm gd ed v) := by
 have lB : (bt (encI nm gd ed ps)).length ≤ 700 := by rw [bt_len]; exact O.len
 refine cmm (compT_map (f := fun _ => .bool true) (fun k hk K hK => ?_) (fun _ _ => rfl) ?_)
 ·refine chk_mk (or_t rfl) ?_
  refine ca h387 (k387_mk (bt (encI nm gd ed ps)) _ _ (congrArg (fun l => [V.lst (l.map V.int), _, _]) (toI_bt O.oct).symm) rfl (by omega) ?_)
  exact hK
 ·exact hr _
theorem d392 {ys : List Int} {d0 d1 : Int} {dr : List Int} {ps : List Pl} {nm : Str} {gd ed : Int} {v : V} {Rt : QR} (O : LawOk ps nm gd ed) (h258 : Γ 258 = k258) (h387 : Γ 387 = k387) (hr : ∀ st, Rt (.bool true) (some st)) :
  exl (eL Γ) (lawB.drop 1) N Rt NoX (stQ ys d0 d1 dr ps nm gd ed v) := by
 have p3 := O.p3
 refine lmm (loop_inv (fun pre st => ∃ v, st = stQ ys d0 d1 dr ps nm gd ed v) (fun pre x post st N ep hi hN => ?_) ⟨_, rfl⟩ (fun st' hi => ?_))
 ·obtain ⟨v, rfl⟩ := hi
  exact l14 O h258 (ep ▸ mem_append_right _ (List.mem_cons_self ..)) (hN _ ⟨_, rfl⟩)
 ·obtain ⟨v, rfl⟩ := hi
  exact e392 (N := N) O h387 hr
theorem post392 {ys : List Int} {d0 d1 : Int} {dr : List Int} {ps : List Pl} {nm : Str} {gd ed : Int} {Rt : QR} (O : LawOk ps nm gd ed) (h373 : Γ 373 = k366) (h366 : Γ 366 = k366) (h225 : Γ 225 = k225) (h258 : Γ 258 = k258) (h387 : Γ 387 = k387) (hr : ∀ st, Rt (.bool true) (some st)) :
  exl (eL Γ) lawB N Rt NoX (stL ys d0 d1 dr ps nm gd ed) := by
 have lE := O.len
 have tE : toI (bt (encI nm gd ed ps)) = encI nm gd ed ps := toI_bt O.oct
 have lB : (bt (encI nm gd ed ps)).length ≤ 700 := by rw [bt_len]; exact lE
 have r1 := O.read [0, 255]
 have r2 := O.read []
 rw [append_nil] at r2
 have eL : (encI nm gd ed ps).map V.int ++ [V.int 0, V.int 255] = (toI (bt (encI nm gd ed ps) ++ [0, 255])).map V.int := by
  rw [toI_app, tE, map_append]; rfl
 have wfc : ∀ n ∈ ps.map nodeOf, n.cs.length ≤ 255 := fun n hn => by
  obtain ⟨p, hp, rfl⟩ := mem_map.mp hn
  exact Nat.le_trans (okN_of (O.wf p hp) (O.ok p hp)).2.2.2.1 (by decide)
 have wl : (ps.map nodeOf).length ≤ 255 := by rw [length_map]; exact Nat.le_trans O.p3 (by decide)
 have sk := shaped_cfg (c := ⟨nm, gd, ed, ps.map nodeOf⟩) (rdCfg_name r2)
 have l0 : ((encI nm gd ed ps).map V.int).length + [V.int 0, V.int 255].length ≤ lstLine := by rw [length_map]; show _ + 2 ≤ _; unfold lstLine; omega
 refine cL ?_ ?hlen
 case hlen => exact l0
 refine ca h373 (k366_mk (bt (encI nm gd ed ps) ++ [0, 255]) (congrArg (fun z => [V.lst z]) eL) rfl (by rw [length_append]; exact Nat.le_trans (Nat.add_le_add_right lB 2) (by decide)) ?_)
 rw [r1]
 refine ca h225 (k225_mk ⟨nm, gd, ed, ps.map nodeOf⟩ rfl rfl wl wfc ?_)
 refine neT_mk (toPyM_out _ (some ⟨nm, gd, ed, ps.map nodeOf⟩)) (toPy_cfgM _ ⟨nm, gd, ed, ps.map nodeOf⟩) sk sk (eqv_cfg _) ?_
 refine ca h366 (k366_mk (bt (encI nm gd ed ps)) (congrArg (fun z => [V.lst (z.map V.int)]) tE.symm) rfl (Nat.le_trans lB (by decide)) ?_)
 rw [r2]
 refine ca h225 (k225_mk ⟨nm, gd, ed, ps.map nodeOf⟩ rfl rfl wl wfc ?_)
 refine neT_mk (toPyM_out _ (some ⟨nm, gd, ed, ps.map nodeOf⟩)) (toPy_cfgM _ ⟨nm, gd, ed, ps.map nodeOf⟩) sk sk (eqv_cfg _) ?_
 exact d392 (N := N) (Rt := Rt) (ys := ys) (d0 := d0) (d1 := d1) (dr := dr) O h258 h387 hr
noncomputable def st12 : Stmt := nthS (fB (stN 46)) 12
noncomputable def orL (s : Stmt) : List Expr := match s with
 | .If (.BoolOp _ es _) _ _ _ => es
 | _ => []
noncomputable def c12 (i : Nat) : Expr := (orL st12).getD i default
noncomputable abbrev c12a : Expr := c12 0
noncomputable abbrev c12b : Expr := c12 1
noncomputable def cmR (e : Expr) : Expr := match e with
 | .Compare _ _ (r :: _) _ => r
 | _ => e
noncomputable abbrev r12 : Expr := cmR (c12 2)
theorem st12_eq : ∃ p1 p2 p3 p4 p5 p6 p7 d p8, st12 = .If (.BoolOp .Or [c12a, c12b, .Compare (.Call (.Name (ofString "list") p1) [.Call (.Name (ofString "config_octets") p2) [.Name (ofString "config") p3] [] p4] [] p5) [.NotEq] [r12] p6] p7) d [] p8 := ⟨_, _, _, _, _, _, _, _, _, rfl⟩
theorem law_split : fB (stN 46) = lawA ++ (st12 :: lawB) := by kernel_rfl
section
theorem wsC_app {f : Stmt → (DS → Prop) → QR → (Str → Prop) → DS → Prop} {N' : DS → Prop} {l2 : List Stmt} (H : ∀ s N Rt ex g ad st, f s N Rt NoX st → WS G cx A ex (exec s cx.envF) N Rt NoX g ad st) (h2 : ∀ g' ad' st', N' st' → WSC G cx A ex (execs l2 cx.envF) N Rt g' ad' st') :
  ∀ (l1 : List Stmt) g ad st, exl f l1 N' Rt NoX st → WSC G cx A ex (execs (l1 ++ l2) cx.envF) N Rt g ad st
 | [], g, ad, st, h => h2 g ad st h
 | s :: ss, g, ad, st, h => wsC_cons (WSC.of (H s _ _ _ _ _ _ h)) fun g' ad' st' q => wsC_app H h2 ss g' ad' st' q
end
noncomputable def dskX (g : Int) : PyData := .tuple [.str (ofString "disk"), .int g]
noncomputable def planD : Pl → PyData
 | .disk g => dskX g
 | .mir gs => .tuple [.str (ofString "mirror"), .list (gs.map dskX)]
 | .rz p gs => .tuple [.str (ofString "raidz"), .int p, .list (gs.map dskX)]
 | .odd _ _ => .none
theorem toPy_dskX (g : Int) : toPy (dskV g) = some (dskX g) := by kernel_rfl
theorem toPy_plan {p : Pl} (ho : okPl p = true) : toPy (planV p) = some (planD p) := by
 cases p with
 | odd => cases ho
 | disk g => exact toPy_dskX g
 | mir gs => exact toPy_tup (toPys_cons rfl (toPys_cons (toPy_lst (toPys_map toPy_dskX gs)) rfl))
 | rz q gs => exact toPy_tup (toPys_cons rfl (toPys_cons rfl (toPys_cons (toPy_lst (toPys_map toPy_dskX gs)) rfl)))
theorem toPys_plans {ps : List Pl} (h : ∀ p ∈ ps, okPl p = true) : toPys (ps.map planV) = some (ps.map planD) := by
 induction ps with
 | nil => rfl
 | cons p ps ih => exact toPys_cons (toPy_plan (h p (.head _))) (ih fun q hq => h q (.tail _ hq))
theorem eqv_dskX (g : Int) : PyData.eqv (dskX g) (dskX g) = true := by simp [dskX, PyData.eqv, PyData.eqvAll]
theorem eqv_plan (p : Pl) : PyData.eqv (planD p) (planD p) = true := by
 cases p <;> simp [planD, PyData.eqv, PyData.eqvAll, eqvAll_map eqv_dskX, eqv_dskX]
theorem lay_dskX (g : Int) : PyData.canLay0 (dskX g) = true := by simp [dskX, PyData.canLay0, PyData.canLayAll0, ok_disk]
theorem ok_mir : PyData.strOk (ofString "mirror") = true := by decide +kernel
theorem ok_rz : PyData.strOk (ofString "raidz") = true := by decide +kernel
theorem lay_plan (p : Pl) : PyData.canLay0 (planD p) = true := by
 cases p <;> simp [planD, PyData.canLay0, PyData.canLayAll0, lay_map lay_dskX, lay_dskX, ok_mir, ok_rz]
theorem dep_dskX (g : Int) : PyData.depth (dskX g) ≤ 10 := by simp [dskX, PyData.depth, PyData.depthAll]
theorem dep_plan (p : Pl) : PyData.depth (planD p) ≤ 20 := by
 cases p with
 | odd => simp [planD, PyData.depth]
 | disk g => exact Nat.le_trans (dep_dskX g) (by decide)
 | mir gs => have := dep_map dep_dskX gs; simp [planD, PyData.depth, PyData.depthAll]; omega
 | rz q gs => have := dep_map dep_dskX gs; simp [planD, PyData.depth, PyData.depthAll]; omega
theorem shaped_list {α : Type} {d : α → PyData} (h1 : ∀ x, PyData.canLay0 (d x) = true) (h2 : ∀ x, PyData.depth (d x) ≤ 20) (l : List α) : SeqAt.shaped (.list (l.map d)) = true := by
 have := dep_map h2 l
 have hd : PyData.depth (.list (l.map d)) ≤ 30 := by simp only [PyData.depth]; omega
 show (PyData.canLay0 (.list (l.map d)) && decide (PyData.depth (.list (l.map d)) ≤ 64)) = true
 rw [decide_eq_true (by omega)]
 simp only [PyData.canLay0, lay_map h1, Bool.and_self]
theorem eqv_list {α : Type} {d : α → PyData} (h : ∀ x, PyData.eqv (d x) (d x) = true) (l : List α) : PyData.eqv (.list (l.map d)) (.list (l.map d)) = true := by simp [PyData.eqv, eqvAll_map h]
theorem toPys_int (l : List Int) : toPys (l.map V.int) = some (l.map PyData.int) := toPys_map (fun _ => rfl) l
theorem toPy_ints (l : List Int) : toPy (iV l) = some (.list (l.map PyData.int)) := toPy_lst (toPys_int l)
theorem eqv_int1 (i : Int) : PyData.eqv (.int i) (.int i) = true := by simp [PyData.eqv]
theorem lay_int1 (i : Int) : PyData.canLay0 (.int i) = true := by simp [PyData.canLay0]
theorem dep_int1 (i : Int) : PyData.depth (.int i) ≤ 20 := by simp [PyData.depth]
theorem ev12a {ys : List Int} {d0 d1 : Int} {dr : List Int} {ps : List Pl} {nm : Str} {gd ed : Int} {Q : Bool → DS → Prop} (O : LawOk ps nm gd ed) (h263 : Γ 263 = k263) (h : Q false (stL ys d0 d1 dr ps nm gd ed)) :
  (lv theT Γ NoX 40).evb ncL c12a Q (stL ys d0 d1 dr ps nm gd ed) := by
 refine cL ?_ ?hlen
 case hlen => rw [length_map, length_map, length_map]; exact Nat.le_trans O.p3 (by decide)
 refine cmm (cmm (compT_map (f := planV) (fun p hp K hK => ?_) (fun p _ => planV_cel p) ?_))
 ·exact ca h263 (k263_mk p rfl (ok_odd (O.ok p hp)) (O.wf p hp) rfl hK)
 have e : ∀ mu, toPyM mu (.lst (ps.map planV)) = some (.list (ps.map planD)) := fun _ => toPy_lst (toPys_plans O.ok)
 exact neT_mk (Q := fun b => Q b (stL ys d0 d1 dr ps nm gd ed)) (e _) (e _) (shaped_list lay_plan dep_plan ps) (shaped_list lay_plan dep_plan ps) (eqv_list eqv_plan ps) h
theorem ev12b {ys : List Int} {d0 d1 : Int} {dr : List Int} {ps : List Pl} {nm : Str} {gd ed : Int} {Q : Bool → DS → Prop} (O : LawOk ps nm gd ed) (h283 : Γ 283 = k283) (h : Q false (stL ys d0 d1 dr ps nm gd ed)) :
  (lv theT Γ NoX 40).evb ncL c12b Q (stL ys d0 d1 dr ps nm gd ed) := by
 refine ca h283 (k283_mk _ rfl rfl (by show (ps.map nodeOf).length ≤ 255; rw [length_map]; exact Nat.le_trans O.p3 (by decide)) (fun n hn => ?_) ?_)
 ·obtain ⟨p, hp, rfl⟩ := mem_map.mp hn
  exact wfN_of (O.wf p hp)
 have e1 : ∀ mu, toPyM mu (iV (guidsNs (ps.map nodeOf))) = some (.list ((ps.flatMap guidsPl).map PyData.int)) := fun _ => by
  rw [guidsNs_of O.ok]; exact toPy_ints _
 have e2 : toPyM [.lst ((ps.flatMap guidsPl).map V.int)] (.cel 0) = some (.list ((ps.flatMap guidsPl).map PyData.int)) := congrArg (Option.map PyData.list) (toPys_int _)
 exact neT_mk (Q := fun b => Q b (stL ys d0 d1 dr ps nm gd ed)) (e1 _) e2 (shaped_list lay_int1 dep_int1 _) (shaped_list lay_int1 dep_int1 _) (eqv_list eqv_int1 _) h
noncomputable abbrev GL : List (Addr × Ctr) := [(120, k120), (239, k239), (68, k68), (73, k73), (263, k263), (336, k336), (319, k319), (351, k351), (331, k331), (258, k258), (225, k225), (283, k283), (366, k366), (380, k380), (373, k366), (387, k387)]
section
theorem gL (hG : G.K = theK P) : ∀ f, SoundF G 16 f (look GL f) := by
 have u : ∀ f, SoundF G 16 f (look G8 f) := g8 hG
 have z : SoundF G 16 120 k120 := (s120 hG).up (by decide)
 refine look_all ?_
 simp only [forall_mem_cons]
 exact ⟨z, u 239, u 68, u 73, u 263, u 336, u 319, u 351, u 331, u 258, u 225, u 283, u 366, u 380, u 373, u 387, fun _ h => by cases h⟩
noncomputable abbrev C1 : List (Addr × Ctr) := [(92, k92), (99, k99)]
theorem c1s (hG : G.K = theK P) : ∀ f, SoundFC G 4 f (look C1 f) := by
 have z := g1 (P := P) hG
 have n : ∀ f, SoundFC G 2 f (look [] f) := lookC_nil
 refine lookC_all ?_
 simp only [forall_mem_cons]
 exact ⟨s92 hG z n, s99 hG z n rfl, fun _ h => by cases h⟩
noncomputable abbrev C2 : List (Addr × Ctr) := [(92, k92), (99, k99), (113, k113), (290, k290d)]
theorem c2s (hG : G.K = theK P) : ∀ f, SoundFC G 6 f (look C2 f) := by
 have z := g2 (P := P) hG
 have n := c1s (P := P) hG
 refine lookC_all ?_
 simp only [forall_mem_cons]
 exact ⟨(n 92).up (by decide), (n 99).up (by decide), s113 hG z n rfl rfl, s290d hG z n rfl rfl, fun _ h => by cases h⟩
noncomputable abbrev C3 : List (Addr × Ctr) := [(92, k92), (99, k99), (113, k113), (290, k290)]
theorem c3s (hG : G.K = theK P) : ∀ f, SoundFC G 8 f (look C3 f) := by
 have z := g3 (P := P) hG
 have n := c2s (P := P) hG
 have z' : ∀ f, SoundF G 6 f (look G3 f) := z
 refine lookC_all ?_
 simp only [forall_mem_cons]
 exact ⟨(n 92).up (by decide), (n 99).up (by decide), (n 113).up (by decide), s290 hG z n rfl rfl rfl, fun _ h => by cases h⟩
theorem c297 (hG : G.K = theK P) : SoundFC G 18 297 k297 := by
 have n := c3s (P := P) hG
 exact s297 (r := 16) hG (gL hG) (fun f => (n f).up (by decide)) rfl rfl rfl rfl rfl
noncomputable def k392 : Ctr := fun vs m Q X => ∃ xs, vs = [iV xs] ∧ m = none ∧ xs.length ≤ 63 ∧ Q (.bool true) none
theorem k392_mk (xs) (e0 : vs = [iV xs]) (e1 : m = none) (e2 : xs.length ≤ 63) (e3 : Q (.bool true) none) : k392 vs m Q X := ⟨xs, e0, e1, e2, e3⟩
theorem mid392 (C : CxOk G cx) (Oa : AOk cx A (r + 1)) (hG : G.K = theK P) (hΓ : ∀ f, SoundF G r f (Γ f)) (h297 : SoundFC G r 297 k297) (h263 : Γ 263 = k263) (h283 : Γ 283 = k283) (hsc : cx.envF.scope = fS (stN 46))
  {ys : List Int} {d0 d1 : Int} {dr : List Int} {ps : List Pl} {nm : Str} {gd ed : Int} (O : LawOk ps nm gd ed) (hn : N (stL ys d0 d1 dr ps nm gd ed)) : WSC G cx A ex (exec st12 cx.envF) N Rt g ad (stL ys d0 d1 dr ps nm gd ed) := by
 have hT : TabsOk G.K theT := hG ▸ tabs_ok P
 have O' : AOk cx A r := Oa.down
 have L := lv_sound (X := NoX) C Oa hT hΓ 40
 have la := L.2 ex ⟨cx.envF.scope, none⟩ cx.envF c12a
 have lb := L.2 ex ⟨cx.envF.scope, none⟩ cx.envF c12b
 have lr := L.1 ex ⟨cx.envF.scope, none⟩ cx.envF r12
 have le := fun es (hn : noStar es = true) pos => sd_list (pos := pos) (L.1 ex ⟨cx.envF.scope, none⟩ cx.envF) hn
 rw [hsc] at la lb lr le
 obtain ⟨p1, p2, p3, p4, p5, p6, p7, d, p8, e12⟩ := st12_eq
 rw [e12]
 refine wsC_If (P := fun b st => b = false ∧ st = stL ys d0 d1 dr ps nm gd ed) ?_ (fun _ _ _ h => by cases h.1) (fun _ _ _ h => wsC_nil (by rw [h.2]; exact hn))
 have Nv : ∀ g ad, EnvOk G cx ex g ad ⟨fS (stN 46), none⟩ cx.envF := fun g ad => hsc ▸ EnvOk.fn
 refine wcb_or (K := fun st => st = stL ys d0 d1 dr ps nm gd ed) (Nv g ad) la (ev12a O h263 rfl) fun g₁ ad₁ st₁ N₁ e₁ => ?_
 subst e₁
 refine wcb_or (K := fun st => st = stL ys d0 d1 dr ps nm gd ed) N₁ lb (ev12b O h283 rfl) fun g₂ ad₂ st₂ N₂ e₂ => ?_
 subst e₂
 refine wcb_orC (rest := []) (WC.mono (Q := fun b _ _ st => b = false ∧ st = stL ys d0 d1 dr ps nm gd ed) ?_ fun a g' ad' st' S p h => by obtain ⟨rfl, rfl⟩ := h; exact ⟨rfl, rfl⟩)
 refine wcb_cmp C O' N₂ (rc_listB C O' (by kernel_rfl) (by rw [hG]; kernel_rfl) (by kernel_rfl) (by kernel_rfl) (rc_CallF C Oa (by kernel_rfl) (by kernel_rfl) (by rw [hG]; kernel_rfl) (by rw [hG]; kernel_rfl) h297 (by kernel_rfl) (le _ (by kernel_rfl) _))) lr (by kernel_rfl) ?_
 refine ⟨⟨nm, gd, ed, ps.map nodeOf⟩, rfl, rfl, O.okC, ?_⟩
 have eb : toI (byteArr (encC ⟨nm, gd, ed, ps.map nodeOf⟩)).toList = encI nm gd ed ps := by
  rw [O.enc]
  exact toI_bt O.oct
 refine ⟨_, rfl, by rw [byteArr_len, O.enc]; exact Nat.le_trans O.len (by decide), ?_⟩
 show (lv theT Γ NoX 40).ev ncL r12 _ _
 rw [eb]
 have e : ∀ mu, toPyM mu (iV (encI nm gd ed ps)) = some (.list ((encI nm gd ed ps).map PyData.int)) := fun _ => toPy_ints _
 exact neT_mk (Q := fun b => b = false ∧ stL ys d0 d1 dr ps nm gd ed = stL ys d0 d1 dr ps nm gd ed) (e _) (e _) (shaped_list lay_int1 dep_int1 _) (shaped_list lay_int1 dep_int1 _) (eqv_list eqv_int1 _) ⟨rfl, rfl⟩
theorem s392 (hG : G.K = theK P) : SoundFC G 20 392 k392 := by
 refine step0W (r := 19) hG (stN 46) "law" .none (.str (ofString "law_np0189_01") 588) (.ref 391) ["script"] (by kernel_rfl) (by kernel_rfl) (by kernel_rfl) rfl (pb1 fun a S => by kernel_rfl) (fun vs m Q h => ?_) fun cx A g b vs Q C O hsc hD h => ?_
 ·obtain ⟨xs, rfl, rfl, h1, h2⟩ := h; rfl
 ·obtain ⟨xs, rfl, hb, hl, hq⟩ := h
  have hbn : b = none := by cases b with | none => rfl | some _ => cases hb
  subst hbn
  have hT : TabsOk G.K theT := hG ▸ tabs_ok P
  have hΓ : ∀ f, SoundF G 18 f (look GL f) := fun f => (gL hG f).up (by decide)
  rw [law_split]
  have st1 : ∀ s N Rt ex g ad st, exStep theT (look GL) 40 false ⟨cx.envF.scope, none⟩ (exs theT (look GL) 40 false ⟨cx.envF.scope, none⟩ 19) s N Rt NoX st → WS G cx A ex (exec s cx.envF) N Rt NoX g ad st := fun s N Rt ex g ad st h => ex_step C O hT hΓ (fun _ => hD) (exs_sound C O hT hΓ (fun _ => hD) 19) h
  rw [hsc] at st1
  have hr : ∀ (st : DS), (fun (v : V) (o : Option DS) => match o with | some st => Q v (mOf (none : Option Bor).isSome st) | none => (none : Option Bor) = none ∧ Q v none) (.bool true) (some st) := fun st => hq
  refine wsC_app st1 (N' := fun st => ∃ ys d0 d1 dr ps nm gd ed, LawOk ps nm gd ed ∧ st = stL ys d0 d1 dr ps nm gd ed) (fun g' ad' st' h => ?_) lawA g _ _ (pre392 rfl rfl rfl rfl rfl hl hr fun ys d0 d1 dr ps nm gd ed O => ⟨ys, d0, d1, dr, ps, nm, gd, ed, O, rfl⟩)
  obtain ⟨ys, d0, d1, dr, ps, nm, gd, ed, Ol, rfl⟩ := h
  refine wsC_cons (P := fun st => st = stL ys d0 d1 dr ps nm gd ed) (mid392 C O hG hΓ (c297 hG) rfl rfl hsc Ol rfl) fun g₂ ad₂ st₂ e => ?_
  subst e
  have key := wsC_app (ex := []) (l2 := []) (Rt := fun v o => match o with | some st => Q v (mOf (none : Option Bor).isSome st) | none => (none : Option Bor) = none ∧ Q v none) (N' := fun st => Q .none (mOf (none : Option Bor).isSome st)) st1 (fun g' ad' st' h => wsC_nil h) lawB g₂ ad₂ _ (post392 (ys := ys) (d0 := d0) (d1 := d1) (dr := dr) Ol rfl rfl rfl rfl rfl hr)
  rw [append_nil] at key
  exact key
end
noncomputable abbrev theR : RowW := PySem.Challenge.rw_np0189_01.row.toRowW
theorem ft {P : Prop} (h : false = true) : P := by cases h
theorem and_l {a b : Bool} (h : (a && b) = true) : a = true := (Bool.and_eq_true_iff.mp h).1
theorem and_r {a b : Bool} (h : (a && b) = true) : b = true := (Bool.and_eq_true_iff.mp h).2
theorem has_int {R : WRecords} {x : WData} (h : WShape.has R x .int = true) : ∃ i, x = .int i := by
 cases x with
 | int i => exact ⟨i, rfl⟩
 | _ => exact ft h
theorem has_ints {R : WRecords} : ∀ {ds : List WData}, WShape.hasItems R ds .int = true → ∃ xs : List Int, ds = xs.map WData.int
 | [], _ => ⟨[], rfl⟩
 | x :: ds, h => by
  obtain ⟨i, rfl⟩ := has_int (and_l h)
  obtain ⟨xs, rfl⟩ := has_ints (and_r h)
  exact ⟨i :: xs, rfl⟩
theorem args_ints {R : WRecords} {args : List WData} (h : WShape.hasAll R args [.list .int] = true) : ∃ xs : List Int, args = [.list (xs.map WData.int)] := by
 cases args with
 | nil => exact ft h
 | cons x l =>
  cases l with
  | cons y l => exact ft (and_r h)
  | nil =>
   have h := and_l h
   cases x with
   | list l =>
    obtain ⟨xs, rfl⟩ := has_ints ((Bool.or_false _).symm.trans h)
    exact ⟨xs, rfl⟩
   | _ => exact ft h
theorem lay_ints {R : WRecords} {cl : Str → Option Addr} {ord : List DictEntry → List DictEntry} {g : PH} {ad : List Addr} : ∀ {xs : List Int} {s s' : Shared} {vals : List Value}, layAllW R cl P ord (xs.map WData.int) s = some (vals, s') → s'.heap = s.heap ∧ VRs G g ad (xs.map V.int) vals
 | [], s, s', vals, h => by
  cases h
  exact ⟨rfl, .nil⟩
 | x :: xs, s, s', vals, h => by
  rw [map_cons, layAllW] at h
  dsimp only [layW] at h
  split at h
  ·rename_i r e
   cases h
   obtain ⟨h1, h2⟩ := lay_ints (s' := r.2) (vals := r.1) e
   exact ⟨h1, .cons (.int x _) h2⟩
  ·cases h
theorem lay_script {R : WRecords} {cl : Str → Option Addr} {ord : List DictEntry → List DictEntry} {xs : List Int} {s s' : Shared} {vs : List Value} (h : layAllW R cl P ord [.list (xs.map WData.int)] s = some (vs, s')) : VRs G s'.heap.get? [] [iV xs] vs := by
 rw [layAllW] at h
 dsimp only [layW, layAllW] at h
 split at h
 ·rename_i r e
  split at e
  ·rename_i q e'
   cases e
   cases h
   obtain ⟨h1, h2⟩ := lay_ints (G := G) (g := (q.2.heap.push { cls := .type "list", data := .seq q.1.toArray }).get?) (ad := []) (s' := q.2) (vals := q.1) e'
   refine .cons (.lst ⟨0, ?_⟩ h2) .nil
   exact Heap.get?_push_size _ rfl
  ·cases e
 ·cases h
noncomputable def clB (st : List (Code × Pos)) : Bool := st.all fun x => !decB x.1
theorem clB_mk {c : Code} {p : Pos} {l : List (Code × Pos)} (h : clB ((c, p) :: l) = true) : decB c = false ∧ Cln l := by
 unfold clB at h
 rw [List.all_cons, Bool.and_eq_true, all_eq_true] at h
 exact ⟨by simpa using h.1, fun x hx => by simpa using h.2 x hx⟩
noncomputable def lookW {α : Type} (t u : Sem α) : Sem α := Sem.stack fun st => if clB st = true then t else u
theorem wp_look {α : Type} {M : Model} {A : Around} {t u : Sem α} {Q : α → Shared → Prop} {E : Value → Shared → Prop} {s : Shared} (h1 : wpC M A t Q s) (h2 : wpAny M A u Q E s) : wpAny M A (lookW t u) Q E s := fun Γ p hΓ => by
 show Sem.wp M Γ (Sem.stack _) _ _ p s
 rw [Sem.wp_stack]
 by_cases hc : clB ((Γ.code, p) :: Γ.below) = true
 ·rw [if_pos hc]
  obtain ⟨h3, h4⟩ := clB_mk hc
  exact Sem.wp_mono M Γ t (fun a _ s' z => z) (fun _ _ _ z => z.elim) p s (h1 Γ p hΓ h3 h4)
 ·rw [if_neg hc]
  exact h2 Γ p hΓ
theorem look_mono {α β : Type} {M : Model} {A : Around} {t u : Sem α} {t' u' : Sem β} {Q : α → Shared → Prop} {Q' : β → Shared → Prop} {E : Value → Shared → Prop} {s : Shared} (h : wpAny M A (lookW t u) Q E s)
  (ht : ∀ Γ p, Γ.In A → Sem.wp M Γ t (fun a _ s' => Q a s') (fun e _ s' => E e s') p s → Sem.wp M Γ t' (fun a _ s' => Q' a s') (fun e _ s' => E e s') p s)
  (hu : ∀ Γ p, Γ.In A → Sem.wp M Γ u (fun a _ s' => Q a s') (fun e _ s' => E e s') p s → Sem.wp M Γ u' (fun a _ s' => Q' a s') (fun e _ s' => E e s') p s) : wpAny M A (lookW t' u') Q' E s := fun Γ p hΓ => by
 have h := h Γ p hΓ
 change Sem.wp M Γ (Sem.stack _) _ _ p s at h
 show Sem.wp M Γ (Sem.stack _) _ _ p s
 rw [Sem.wp_stack] at h ⊢
 by_cases hc : clB ((Γ.code, p) :: Γ.below) = true
 ·rw [if_pos hc] at h ⊢
  exact ht Γ p hΓ h
 ·rw [if_neg hc] at h ⊢
  exact hu Γ p hΓ h
noncomputable def stubT (n : Str) (vs : List Value) : Sem Fin := do match ← nsGet mainNs n with
 | some f => do ret (← call f vs)
 | none => unsupported "claim.caller:no-such-global"
noncomputable def runT (f : Value) (vs : List Value) : Sem Value := lookW (call f vs) (pure (.bool true))
noncomputable def treeT (n : Str) (vs : List Value) : Sem Fin := lookW (stubT n vs) (ret (.bool true))
theorem tree_run {n : Str} {vs : List Value} {M : Model} {A : Around} {s : Shared} {mg : Str → Option Value} {f : Value} {Q : Fin → Shared → Prop} {E : Value → Shared → Prop} (hg : s.heap.Ns mainGlobals mg) (hf : mg n = some f)
  (h : wpAny M A (runT f vs) (fun v s' => Q (.done (.ret v)) s') E s) : wpAny M A (treeT n vs) Q E s := by
 refine look_mono h (fun Γ p _ h => ?_) fun Γ p _ h => h
 show Sem.wp M Γ (nsGet mainNs n >>= _) _ _ p s
 rw [Sem.wp_bind']
 refine (Sem.wp_nsGet M Γ _ p s hg n _).mpr ?_
 rw [hf]
 show Sem.wp M Γ (call f vs >>= _) _ _ p s
 rw [Sem.wp_bind']
 exact h
theorem sched_look {prog : Program} {w : World} {s : Shared} {t u : Sem Fin} {n : Nat} {o : Outcome} {s' : Shared} (hz : s.asleep)
  (h : schedN (denote table) prog w n (.single s ⟨lookW t u, .builtin "claim.caller" {}, default, []⟩) = .halted o s') :
  ∃ m, schedN (denote table) prog w m (.single s ⟨t, .builtin "claim.caller" {}, default, []⟩) = .halted o s' := by
 cases n with
 | zero => cases h
 | succ n =>
  refine ⟨n, ?_⟩
  have hc : clB [(.builtin "claim.caller" {}, default)] = true := by decide +kernel
  have e : step (denote table) prog w s ⟨lookW t u, .builtin "claim.caller" {}, default, []⟩ = .go s ⟨t, .builtin "claim.caller" {}, default, []⟩ := by
   show Step.go _ ⟨(if clB [(.builtin "claim.caller" {}, default)] = true then t else u), _, _, _⟩ = _
   rw [if_pos hc]
  rw [schedN] at h
  rcases sstep_single (den := denote table) (prog := prog) (w := w) s ⟨lookW t u, .builtin "claim.caller" {}, default, []⟩ rfl hz with q | q
  ·rw [q, e] at h
   exact h
  ·rw [e] at q
   cases q
theorem ex_mono {α β : Type} {A B : α → Prop} {C : α → β → Prop} {D E F : β → Prop} {P P' : α → β → Prop} (h : ∃ s₀, A s₀ ∧ B s₀ ∧ ∃ s₁, C s₀ s₁ ∧ D s₁ ∧ E s₁ ∧ F s₁ ∧ P s₀ s₁) (k : ∀ s₀ s₁, A s₀ → C s₀ s₁ → P s₀ s₁ → P' s₀ s₁) : ∃ s₀, A s₀ ∧ B s₀ ∧ ∃ s₁, C s₀ s₁ ∧ D s₁ ∧ E s₁ ∧ F s₁ ∧ P' s₀ s₁ :=
 let ⟨s₀, a, b, s₁, c, d, e, f, q⟩ := h
 ⟨s₀, a, b, s₁, c, d, e, f, k s₀ s₁ a c q⟩
theorem ex_turn {α β γ δ ε : Type} {L : α → β → Prop} {S S' : α → β → γ → δ → ε → Prop} {R : α → β → δ → ε → Prop} (h : ∃ vs s₂, L vs s₂ ∧ ∃ n o s', S vs s₂ n o s' ∧ R vs s₂ o s') (k : ∀ vs s₂ n o s', L vs s₂ → S vs s₂ n o s' → ∃ m, S' vs s₂ m o s') : ∃ vs s₂, L vs s₂ ∧ ∃ n o s', S' vs s₂ n o s' ∧ R vs s₂ o s' :=
 let ⟨vs, s₂, l, n, o, s', q, x⟩ := h
 let ⟨m, q'⟩ := k vs s₂ n o s' l q
 ⟨vs, s₂, l, m, o, s', q', x⟩
theorem unlook {c : ClaimW} {n : Str} {defs kps : List Str} {wr : Bool} (H : c.HoldsOpenBy (fun vs => ⟨treeT n vs, .builtin "claim.caller" {}, default, []⟩) defs kps wr) : c.HoldsOpenBy (callStub n) defs kps wr :=
 ⟨H.1, H.2.1, fun w => ⟨(H.2.2 w).1, fun s hs => ex_mono ((H.2.2 w).2 s hs) fun s₀ s₁ hf T CF args h4 h5 ord h6 => ex_turn (CF args h4 h5 ord h6) fun vs s₂ n o s' hl hn =>
  sched_look (Shared.asleep_of_life ((layAllW_rest _ _ _ hl).2.2.2.trans (T.2.1.trans (fence_lifeW hf))) (show AfterImport (opening c.prog) w s from hs).life) hn⟩⟩
theorem call392 (w : World) (s₀ s₁ : Shared) (mg mb : Str → Option Value) {XP : (Str → Option Value) → Heap → Prop} (Gr : Ground theQ looseN theR.records XP w s₀ mg mb s₁.heap) (Y : (theK w.params).In s₁.heap) (args : List WData) (vs : List Value) (as : List Addr)
  (hpre : theR.claim.pre args = true) (L : Laid theR.records w s₀ s₁ args vs as) : ∃ f, mg theR.name = some f ∧
   wpAny (model theR.prog w) callerA (runT f vs) (fun v s' => GoodWG theR.claim (classAt s₀.heap) (ExcName.means s₀.heap) args s₁ (.ok (.ret v)) s')
     (fun e s' => GoodWG theR.claim (classAt s₀.heap) (ExcName.means s₀.heap) args s₁ (.error e) s') s₁ := by
 refine ⟨.ref 392, mg_of Y Gr.T.g (by kernel_rfl), ?_⟩
 obtain ⟨xs, rfl⟩ := args_ints (pre_splitW hpre).1
 have hl : xs.length ≤ 63 := by
  have h := (pre_splitW hpre).2
  have e : theR.pre = .and (.not (.lt (.lit (.int 63)) (.len (.arg 0)))) (.lit (.bool true)) := by kernel_rfl
  rw [e] at h
  refine Nat.le_of_not_lt fun q => ?_
  have e2 : W.less? (.int 63) (.int ((xs.map WData.int).length : Int)) = some true := by
   show some (decide ((63 : Int) < _)) = some true
   rw [length_map, decide_eq_true (by omega)]
  have e3 : (WTm.lt (.lit (.int 63)) (.len (.arg 0))).value theR.records { args := [.list (xs.map WData.int)] } = some (.bool true) := by
   show (W.less? (.int 63) (.int ((xs.map WData.int).length : Int))).map WData.bool = _
   rw [e2]; rfl
  unfold WTm.holds at h
  have e4 : (WTm.not (.lt (.lit (.int 63)) (.len (.arg 0)))).value theR.records { args := [.list (xs.map WData.int)] } = some (.bool false) := by rw [WTm.value, e3]; rfl
  rw [WTm.value, e4] at h
  cases h
 have good : ∀ s' : Shared, (∀ b o, s₁.heap.get? b = some o → s'.heap.get? b = some o) → s'.os = s₁.os → s'.gens = #[] → GoodWG theR.claim (classAt s₀.heap) (ExcName.means s₀.heap) [.list (xs.map WData.int)] s₁ (.ok (.ret (.bool true))) s' := fun s' h1 h2 h3 =>
  GoodW.toG ⟨.inl ⟨_, .bool true, [], rfl, fun _ => rfl, .bool _, by kernel_rfl, fun _ => ⟨.nil, fun _ h => by cases h⟩⟩, h1, h2, h3⟩
 let G : Gd := { prog := theR.prog, w := w, K := theK w.params, p := theQ, loose := looseW theQ looseN, mean := ExcName.means s₀.heap, mg := mg, mb := mb, b₀ := s₁.heap, X := Y, T := Gr.T, seer := Gr.T.seer (by kernel_rfl), gtree := by kernel_rfl }
 obtain ⟨ord, hord, hlaid⟩ := L.laid
 have rs : VRs G s₁.heap.get? [] [iV xs] vs := lay_script hlaid
 refine wp_look (wpC_call ?_) (wpAny_pure (good s₁ (fun _ _ e => e) rfl L.gens))
 refine s392 (G := G) rfl callerA s₁ [] s₁.heap.get? s₁.heap none vs [iV xs] (fun v m => v = .bool true) _ rfl rfl rfl (by decide) (by decide) L.gens ?_ (fun _ _ _ q => by cases q) rs ⟨xs, rfl, rfl, hl, rfl⟩ ?_
 ·exact ⟨fun _ _ e => e, fun _ _ e => e, (fun _ h => nomatch h), trivial, (fun _ h => nomatch h), fun _ _ e _ _ => e, fun _ _ e => e, fun _ _ e => e⟩
 ·intro g' l' v val m' s' S' J rv _ _ q hg' ho
  subst q
  obtain rfl := rv.inv
  refine good s' (fun b o e => ?_) ho hg'
  obtain ⟨cx, e1, e2, e3, e4, I⟩ := J
  exact (I.keep b o (by rw [e1]; exact e) (by rw [e2]; nofun)).1 (by rw [e4]; nofun)
noncomputable abbrev theH : Hook := kHook theK theAs asK
theorem said : PySem.Challenge.rw_np0189_01.wellSaid = true := by kernel_rfl
theorem prom : theR.promised := ⟨[WData.list [.int 3, .int 1]], by kernel_rfl, by kernel_rfl⟩
theorem open392 : theR.claim.HoldsOpenBy (fun vs => ⟨treeT theR.name vs, .builtin "claim.caller" {}, default, []⟩) (if PySem.Challenge.rw_np0189_01.row.pinned then [PySem.Challenge.rw_np0189_01.row.name] else []) PySem.Challenge.rw_np0189_01.row.keeps PySem.Challenge.rw_np0189_01.row.writes := by
 refine open_anyG (r := theR) (run := runT) (q := theQ) (loose := looseN) (XP := XL theQ []) (YP := theH.says) left (Hook.of theH) (Hook.keeps theH) (fun s e => xl_of s (Bool.and_eq_true_iff.mp e).1) XL.keeps (fun s e => recFacts_of (Bool.and_eq_true_iff.mp e).2) rfl (by kernel_rfl) ⟨rfl, rfl, rfl, rfl, rfl, by kernel_rfl⟩ prom
  (fun vs w s mg f Q E hg hf h => tree_run hg hf h) (fun w s hg G n hn => ?_) fun w s₀ s₁ mg mb G Y args vs as hpre hlay L low => call392 w s₀ s₁ mg mb G (kIn_of Y) args vs as hpre L
 have e : n = PySem.Challenge.rw_np0189_01.row.name := by
  rw [if_pos (by rfl)] at hn
  exact mem_singleton.mp hn
 subst e
 exact pinned_of_view hg G (by rfl) (by rfl) (by rfl)
theorem top : PySem.Challenge.rw_np0189_01.Holds := holds_law said fun s => ⟨s, prom, unlook open392⟩
end Mine
theorem PySem.Challenge.cw_np0189_01_holds : PySem.Challenge.rw_np0189_01.Holds :=
 Mine.top
