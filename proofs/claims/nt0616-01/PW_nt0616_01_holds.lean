import PyProof.Rows.All
import Wide.All
import OpenK.AllK
import Wide.FinOn
import PySem.Challenge.RW_nt0616_01
open PySem PySem.W PySem.Calls PyProof.Rows PySem.SeqAt PySem.Builtin.Str
open PySem.Str renaming ofString → zs
set_option Elab.async false
set_option linter.all false
set_option maxRecDepth 100000
set_option maxHeartbeats 1000000
set_option genInjectivity false
set_option genSizeOf false
set_option genSizeOfSpec false
namespace Mine
noncomputable def tS (i : Nat) : Stmt := match PySem.Challenge.pw_nt0616_01.main.body[i]? with
 | some s => s
 | none => .Pass default
noncomputable def iS (i j : Nat) : Stmt := match tS i with
 | .ClassDef _ _ _ b _ _ _ _ _ _ _ => (match b[j]? with | some s => s | none => .Pass default)
 | _ => .Pass default
noncomputable def stA : Stmt → Arguments
 | .FunctionDef _ a _ _ _ _ _ _ _ _ => a
 | _ => ⟨[], [], none, [], [], none, []⟩
noncomputable def stB : Stmt → List Stmt
 | .FunctionDef _ _ b _ _ _ _ _ _ _ => b
 | _ => []
noncomputable def stS : Stmt → Scope
 | .FunctionDef _ _ _ _ _ _ s _ _ _ => s
 | _ => default
noncomputable abbrev de (P : Params) (x : String) (t : Tok) (v : Value) : DictEntry := ⟨PyData.keyHash P (Str.ofString x), .str (Str.ofString x) t, v⟩
noncomputable abbrev vi (i : Int) : Value := .int i 0
noncomputable abbrev vz (x : String) (t : Tok) : Value := .str (Str.ofString x) t
noncomputable abbrev fO (n q : String) (s : Stmt) (d : Value) (m : String) (t : Tok) (c : Addr) : Obj := ⟨.type "function", none, .func (fnOf (Str.ofString n) (Str.ofString q) (stA s) (stB s) (stS s) d .none .none (vz m t) none (.ref c) .none), #[]⟩
noncomputable abbrev cO (v : Array Value) : Obj := ⟨.type "code", none, .fields v, #[]⟩
noncomputable def gK (P : Params) : Frag := [
 (3, ⟨(.type "dict"), none, (.dict #[de P "__name__" 165 (vz "law_nt0616_01" 1033), de P "__doc__" 166 .none, de P "__package__" 167 .none, de P "__loader__" 168 (.builtin "__main__.__loader__#opaque"), de P "__spec__" 169 .none, de P "__annotations__" 170 (.ref 6), de P "__builtins__" 171 (.ref 4), de P "__file__" 173 (vz "/claim/cut.py" 172), de P "__cached__" 174 .none, de P "_wall" 193 (.ref 21), de P "is_special" 203 (.ref 28), de P "is_heading" 210 (.ref 35), de P "is_table_part" 217 (.ref 42), de P "implied_names" 223 (.ref 49), de P "OpenStack" 352 (.ref 150), de P "stops_scope" 363 (.ref 161), de P "in_scope" 376 (.ref 169), de P "pop_implied" 386 (.ref 177), de P "foster_place" 399 (.ref 184), de P "place_for" 412 (.ref 192), de P "make" 423 (.ref 200), de P "insert_element" 437 (.ref 209), de P "insert_token" 446 (.ref 216), de P "insert_void" 455 (.ref 223), de P "associate" 465 (.ref 230), de P "reconstruct" 476 (.ref 237), de P "close_p" 483 (.ref 244), de P "start_raw" 492 (.ref 251), de P "leave_p" 501 (.ref 258), de P "close_named" 511 (.ref 266), de P "start_block" 520 (.ref 273), de P "open_item" 534 (.ref 280), de P "start_item" 544 (.ref 287), de P "start_form" 554 (.ref 294), de P "start_button" 562 (.ref 301), de P "start_table" 570 (.ref 308), de P "start_xmp" 578 (.ref 315), de P "block_start" 587 (.ref 322), de P "HtmlFault" 618 (.ref 339), de P "Misused" 634 (.ref 352), de P "Formatting" 741 (.ref 434), de P "alike" 751 (.ref 445), de P "Tree" 915 (.ref 558), de P "above" 925 (.ref 569), de P "Builder" 1032 (.ref 636), de P "_law_digit" 1042 (.ref 647), de P "_law_scenes" 1048 (.ref 654), de P "_law_tags" 1056 (.ref 661), de P "_law_words" 1074 (.ref 668), de P "_law_ready" 1080 (.ref 673), de P "_law_copy" 1086 (.ref 678), de P "_law_open" 1092 (.ref 683), de P "_law_solid" 1098 (.ref 688), de P "_law_ends" 1104 (.ref 693), de P "_law_place" 1110 (.ref 698), de P "_law_close" 1120 (.ref 705), de P "_law_put" 1133 (.ref 712), de P "_law_reopen" 1139 (.ref 717), de P "_law_told_wrong" 1146 (.ref 724), de P "_law_ahead" 1152 (.ref 729), de P "_law_due" 1167 (.ref 736), de P "_law_flags" 1175 (.ref 743), de P "_law_set_back" 1182 (.ref 750), de P "_law_is_due" 1188 (.ref 755), de P "law" 1210 (.ref 762)] 65), #[]⟩),
 (27, cO #[(vz "is_special" 196), (vz "is_special" 197), (vz "/claim/cut.py" 198), vi 5, vi 2, vi 0, vi 0, vi 3, (.ref 22), (.bool true), vi 181, (.ref 23), .none, (.ref 24), (.ref 25), (.ref 26), vi 201, vi 5, (vz "/claim/cut.py" 202)]),
 (28, fO "is_special" "is_special" (tS 2) .none "htmltree.names" 194 27),
 (34, cO #[(vz "is_heading" 204), (vz "is_heading" 205), (vz "/claim/cut.py" 206), vi 11, vi 1, vi 0, vi 0, vi 3, (.ref 29), (.bool true), vi 181, (.ref 30), .none, (.ref 31), (.ref 32), (.ref 33), vi 208, vi 11, (vz "/claim/cut.py" 209)]),
 (35, fO "is_heading" "is_heading" (tS 3) .none "htmltree.names" 194 34),
 (48, cO #[(vz "implied_names" 218), (vz "implied_names" 219), (vz "/claim/cut.py" 220), vi 15, vi 0, vi 0, vi 0, vi 3, (.ref 43), (.bool true), vi 181, (.ref 44), .none, (.ref 45), (.ref 46), (.ref 47), vi 221, vi 15, (vz "/claim/cut.py" 222)]),
 (49, fO "implied_names" "implied_names" (tS 5) .none "htmltree.names" 194 48),
 (62, cO #[(vz "__init__" 238), (vz "OpenStack.__init__" 239), (vz "/claim/cut.py" 240), vi 20, vi 2, vi 0, vi 0, vi 3, (.ref 57), (.bool true), vi 181, (.ref 58), .none, (.ref 59), (.ref 60), (.ref 61), vi 243, vi 20, (vz "/claim/cut.py" 244)]),
 (63, fO "__init__" "OpenStack.__init__" (iS 7 0) .none "htmltree.openstack" 224 62),
 (69, cO #[(vz "push" 246), (vz "OpenStack.push" 247), (vz "/claim/cut.py" 248), vi 24, vi 2, vi 0, vi 0, vi 3, (.ref 64), (.bool true), vi 181, (.ref 65), .none, (.ref 66), (.ref 67), (.ref 68), vi 251, vi 24, (vz "/claim/cut.py" 252)]),
 (70, fO "push" "OpenStack.push" (iS 7 1) .none "htmltree.openstack" 224 69),
 (76, cO #[(vz "pop" 254), (vz "OpenStack.pop" 255), (vz "/claim/cut.py" 256), vi 27, vi 1, vi 0, vi 0, vi 3, (.ref 71), (.bool true), vi 181, (.ref 72), .none, (.ref 73), (.ref 74), (.ref 75), vi 258, vi 27, (vz "/claim/cut.py" 259)]),
 (77, fO "pop" "OpenStack.pop" (iS 7 2) .none "htmltree.openstack" 224 76),
 (83, cO #[(vz "current" 261), (vz "OpenStack.current" 262), (vz "/claim/cut.py" 263), vi 32, vi 1, vi 0, vi 0, vi 3, (.ref 78), (.bool true), vi 181, (.ref 79), .none, (.ref 80), (.ref 81), (.ref 82), vi 265, vi 32, (vz "/claim/cut.py" 266)]),
 (84, fO "current" "OpenStack.current" (iS 7 3) .none "htmltree.openstack" 224 83),
 (90, cO #[(vz "many" 268), (vz "OpenStack.many" 269), (vz "/claim/cut.py" 270), vi 37, vi 1, vi 0, vi 0, vi 3, (.ref 85), (.bool true), vi 181, (.ref 86), .none, (.ref 87), (.ref 88), (.ref 89), vi 272, vi 37, (vz "/claim/cut.py" 273)]),
 (91, fO "many" "OpenStack.many" (iS 7 4) .none "htmltree.openstack" 224 90),
 (97, cO #[(vz "has" 275), (vz "OpenStack.has" 276), (vz "/claim/cut.py" 277), vi 40, vi 2, vi 0, vi 0, vi 3, (.ref 92), (.bool true), vi 181, (.ref 93), .none, (.ref 94), (.ref 95), (.ref 96), vi 280, vi 40, (vz "/claim/cut.py" 281)]),
 (98, fO "has" "OpenStack.has" (iS 7 5) .none "htmltree.openstack" 224 97),
 (125, cO #[(vz "name" 308), (vz "OpenStack.name" 309), (vz "/claim/cut.py" 310), vi 55, vi 1, vi 0, vi 0, vi 3, (.ref 120), (.bool true), vi 181, (.ref 121), .none, (.ref 122), (.ref 123), (.ref 124), vi 313, vi 55, (vz "/claim/cut.py" 314)]),
 (126, fO "name" "OpenStack.name" (iS 7 9) .none "htmltree.openstack" 224 125),
 (132, cO #[(vz "has_name" 316), (vz "OpenStack.has_name" 317), (vz "/claim/cut.py" 318), vi 61, vi 2, vi 0, vi 0, vi 3, (.ref 127), (.bool true), vi 181, (.ref 128), .none, (.ref 129), (.ref 130), (.ref 131), vi 322, vi 61, (vz "/claim/cut.py" 323)]),
 (133, fO "has_name" "OpenStack.has_name" (iS 7 10) .none "htmltree.openstack" 224 132),
 (139, cO #[(vz "pop_until" 325), (vz "OpenStack.pop_until" 326), (vz "/claim/cut.py" 327), vi 67, vi 2, vi 0, vi 0, vi 3, (.ref 134), (.bool true), vi 181, (.ref 135), .none, (.ref 136), (.ref 137), (.ref 138), vi 332, vi 67, (vz "/claim/cut.py" 333)]),
 (140, fO "pop_until" "OpenStack.pop_until" (iS 7 11) .none "htmltree.openstack" 224 139),
 (149, ⟨(.type "dict"), none, (.dict #[de P "__module__" 233 (vz "htmltree.openstack" 224), de P "__firstlineno__" 237 (Value.int 18 236), de P "__init__" 245 (.ref 63), de P "push" 253 (.ref 70), de P "pop" 260 (.ref 77), de P "current" 267 (.ref 84), de P "many" 274 (.ref 91), de P "has" 282 (.ref 98), de P "remove" 290 (.ref 105), de P "place" 298 (.ref 112), de P "put_at" 307 (.ref 119), de P "name" 315 (.ref 126), de P "has_name" 324 (.ref 133), de P "pop_until" 334 (.ref 140), de P "pop_to" 342 (.ref 147), de P "__static_attributes__" 345 (.ref 148), de P "__dict__" 347 (.ref 151), de P "__weakref__" 349 (.ref 152), de P "__doc__" 350 .none] 4), #[]⟩),
 (150, ⟨(.type "type"), none, (.cls ⟨(zs "OpenStack"), [(.type "object")], [(.ref 150), (.type "object")], 149, (zs "OpenStack"), true, [], [], false, none, false⟩), #[none, none, (some (vz "OpenStack" 226)), (some (vz "OpenStack" 234)), (some (.builtin "object.__new__")), (some (.bool true))]⟩),
 (160, cO #[(vz "stops_scope" 353), (vz "stops_scope" 354), (vz "/claim/cut.py" 355), vi 77, vi 3, vi 0, vi 0, vi 3, (.ref 155), (.bool true), vi 181, (.ref 156), .none, (.ref 157), (.ref 158), (.ref 159), vi 361, vi 77, (vz "/claim/cut.py" 362)]),
 (161, fO "stops_scope" "stops_scope" (tS 8) .none "htmltree.openstack" 224 160),
 (162, ⟨(.type "tuple"), none, (.seq #[(vz "" 364)] 0), #[]⟩),
 (168, cO #[(vz "in_scope" 365), (vz "in_scope" 366), (vz "/claim/cut.py" 367), vi 93, vi 3, vi 0, vi 0, vi 3, (.ref 163), (.bool true), vi 181, (.ref 164), .none, (.ref 165), (.ref 166), (.ref 167), vi 374, vi 93, (vz "/claim/cut.py" 375)]),
 (169, fO "in_scope" "in_scope" (tS 9) (.ref 162) "htmltree.openstack" 224 168),
 (170, ⟨(.type "tuple"), none, (.seq #[(vz "" 377)] 0), #[]⟩),
 (176, cO #[(vz "pop_implied" 378), (vz "pop_implied" 379), (vz "/claim/cut.py" 380), vi 102, vi 2, vi 0, vi 0, vi 3, (.ref 171), (.bool true), vi 181, (.ref 172), .none, (.ref 173), (.ref 174), (.ref 175), vi 384, vi 102, (vz "/claim/cut.py" 385)]),
 (177, fO "pop_implied" "pop_implied" (tS 10) (.ref 170) "htmltree.openstack" 224 176),
 (185, ⟨(.type "tuple"), none, (.seq #[(Value.int (-1) 401)] 0), #[]⟩),
 (191, cO #[(vz "place_for" 402), (vz "place_for" 403), (vz "/claim/cut.py" 404), vi 121, vi 2, vi 0, vi 0, vi 3, (.ref 186), (.bool true), vi 181, (.ref 187), .none, (.ref 188), (.ref 189), (.ref 190), vi 410, vi 121, (vz "/claim/cut.py" 411)]),
 (192, fO "place_for" "place_for" (tS 13) (.ref 185) "htmltree.inserting" 387 191),
 (193, ⟨(.type "tuple"), none, (.seq #[(vz "html" 413)] 0), #[]⟩),
 (199, cO #[(vz "make" 414), (vz "make" 415), (vz "/claim/cut.py" 416), vi 134, vi 4, vi 0, vi 0, vi 3, (.ref 194), (.bool true), vi 181, (.ref 195), .none, (.ref 196), (.ref 197), (.ref 198), vi 421, vi 134, (vz "/claim/cut.py" 422)]),
 (200, fO "make" "make" (tS 14) (.ref 193) "htmltree.inserting" 387 199),
 (201, ⟨(.type "tuple"), none, (.seq #[] 0), #[]⟩),
 (202, ⟨(.type "tuple"), none, (.seq #[(.ref 201), (vz "html" 424)] 0), #[]⟩),
 (208, cO #[(vz "insert_element" 425), (vz "insert_element" 426), (vz "/claim/cut.py" 427), vi 136, vi 4, vi 0, vi 0, vi 3, (.ref 203), (.bool true), vi 181, (.ref 204), .none, (.ref 205), (.ref 206), (.ref 207), vi 435, vi 136, (vz "/claim/cut.py" 436)]),
 (209, fO "insert_element" "insert_element" (tS 15) (.ref 202) "htmltree.inserting" 387 208),
 (215, cO #[(vz "insert_token" 438), (vz "insert_token" 439), (vz "/claim/cut.py" 440), vi 142, vi 2, vi 0, vi 0, vi 3, (.ref 210), (.bool true), vi 181, (.ref 211), .none, (.ref 212), (.ref 213), (.ref 214), vi 444, vi 142, (vz "/claim/cut.py" 445)]),
 (216, fO "insert_token" "insert_token" (tS 16) .none "htmltree.inserting" 387 215),
 (222, cO #[(vz "insert_void" 447), (vz "insert_void" 448), (vz "/claim/cut.py" 449), vi 146, vi 2, vi 0, vi 0, vi 3, (.ref 217), (.bool true), vi 181, (.ref 218), .none, (.ref 219), (.ref 220), (.ref 221), vi 453, vi 146, (vz "/claim/cut.py" 454)]),
 (223, fO "insert_void" "insert_void" (tS 17) .none "htmltree.inserting" 387 222),
 (229, cO #[(vz "associate" 456), (vz "associate" 457), (vz "/claim/cut.py" 458), vi 151, vi 2, vi 0, vi 0, vi 3, (.ref 224), (.bool true), vi 181, (.ref 225), .none, (.ref 226), (.ref 227), (.ref 228), vi 463, vi 151, (vz "/claim/cut.py" 464)]),
 (230, fO "associate" "associate" (tS 18) .none "htmltree.inserting" 387 229),
 (236, cO #[(vz "reconstruct" 466), (vz "reconstruct" 467), (vz "/claim/cut.py" 468), vi 162, vi 1, vi 0, vi 0, vi 3, (.ref 231), (.bool true), vi 181, (.ref 232), .none, (.ref 233), (.ref 234), (.ref 235), vi 474, vi 162, (vz "/claim/cut.py" 475)]),
 (237, fO "reconstruct" "reconstruct" (tS 19) .none "htmltree.inserting" 387 236),
 (243, cO #[(vz "close_p" 477), (vz "close_p" 478), (vz "/claim/cut.py" 479), vi 172, vi 1, vi 0, vi 0, vi 3, (.ref 238), (.bool true), vi 181, (.ref 239), .none, (.ref 240), (.ref 241), (.ref 242), vi 481, vi 172, (vz "/claim/cut.py" 482)]),
 (244, fO "close_p" "close_p" (tS 20) .none "htmltree.inserting" 387 243),
 (250, cO #[(vz "start_raw" 484), (vz "start_raw" 485), (vz "/claim/cut.py" 486), vi 177, vi 3, vi 0, vi 0, vi 3, (.ref 245), (.bool true), vi 181, (.ref 246), .none, (.ref 247), (.ref 248), (.ref 249), vi 490, vi 177, (vz "/claim/cut.py" 491)]),
 (251, fO "start_raw" "start_raw" (tS 21) .none "htmltree.inserting" 387 250),
 (257, cO #[(vz "leave_p" 495), (vz "leave_p" 496), (vz "/claim/cut.py" 497), vi 183, vi 1, vi 0, vi 0, vi 3, (.ref 252), (.bool true), vi 181, (.ref 253), .none, (.ref 254), (.ref 255), (.ref 256), vi 499, vi 183, (vz "/claim/cut.py" 500)]),
 (258, fO "leave_p" "leave_p" (tS 23) .none "htmltree.bodyblocks" 493 257),
 (259, ⟨(.type "tuple"), none, (.seq #[(vz "" 502)] 0), #[]⟩),
 (265, cO #[(vz "close_named" 503), (vz "close_named" 504), (vz "/claim/cut.py" 505), vi 186, vi 3, vi 0, vi 0, vi 3, (.ref 260), (.bool true), vi 181, (.ref 261), .none, (.ref 262), (.ref 263), (.ref 264), vi 509, vi 186, (vz "/claim/cut.py" 510)]),
 (266, fO "close_named" "close_named" (tS 24) (.ref 259) "htmltree.bodyblocks" 493 265),
 (272, cO #[(vz "start_block" 512), (vz "start_block" 513), (vz "/claim/cut.py" 514), vi 191, vi 2, vi 0, vi 0, vi 3, (.ref 267), (.bool true), vi 181, (.ref 268), .none, (.ref 269), (.ref 270), (.ref 271), vi 518, vi 191, (vz "/claim/cut.py" 519)]),
 (273, fO "start_block" "start_block" (tS 25) .none "htmltree.bodyblocks" 493 272),
 (279, cO #[(vz "open_item" 521), (vz "open_item" 522), (vz "/claim/cut.py" 523), vi 207, vi 2, vi 0, vi 0, vi 3, (.ref 274), (.bool true), vi 181, (.ref 275), .none, (.ref 276), (.ref 277), (.ref 278), vi 532, vi 207, (vz "/claim/cut.py" 533)]),
 (280, fO "open_item" "open_item" (tS 26) .none "htmltree.bodyblocks" 493 279),
 (286, cO #[(vz "start_item" 535), (vz "start_item" 536), (vz "/claim/cut.py" 537), vi 221, vi 3, vi 0, vi 0, vi 3, (.ref 281), (.bool true), vi 181, (.ref 282), .none, (.ref 283), (.ref 284), (.ref 285), vi 542, vi 221, (vz "/claim/cut.py" 543)]),
 (287, fO "start_item" "start_item" (tS 27) .none "htmltree.bodyblocks" 493 286),
 (293, cO #[(vz "start_form" 545), (vz "start_form" 546), (vz "/claim/cut.py" 547), vi 228, vi 2, vi 0, vi 0, vi 3, (.ref 288), (.bool true), vi 181, (.ref 289), .none, (.ref 290), (.ref 291), (.ref 292), vi 552, vi 228, (vz "/claim/cut.py" 553)]),
 (294, fO "start_form" "start_form" (tS 28) .none "htmltree.bodyblocks" 493 293),
 (300, cO #[(vz "start_button" 555), (vz "start_button" 556), (vz "/claim/cut.py" 557), vi 237, vi 2, vi 0, vi 0, vi 3, (.ref 295), (.bool true), vi 181, (.ref 296), .none, (.ref 297), (.ref 298), (.ref 299), vi 560, vi 237, (vz "/claim/cut.py" 561)]),
 (301, fO "start_button" "start_button" (tS 29) .none "htmltree.bodyblocks" 493 300),
 (307, cO #[(vz "start_table" 563), (vz "start_table" 564), (vz "/claim/cut.py" 565), vi 245, vi 2, vi 0, vi 0, vi 3, (.ref 302), (.bool true), vi 181, (.ref 303), .none, (.ref 304), (.ref 305), (.ref 306), vi 568, vi 245, (vz "/claim/cut.py" 569)]),
 (308, fO "start_table" "start_table" (tS 30) .none "htmltree.bodyblocks" 493 307),
 (314, cO #[(vz "start_xmp" 571), (vz "start_xmp" 572), (vz "/claim/cut.py" 573), vi 251, vi 2, vi 0, vi 0, vi 3, (.ref 309), (.bool true), vi 181, (.ref 310), .none, (.ref 311), (.ref 312), (.ref 313), vi 576, vi 251, (vz "/claim/cut.py" 577)]),
 (315, fO "start_xmp" "start_xmp" (tS 31) .none "htmltree.bodyblocks" 493 314),
 (321, cO #[(vz "block_start" 579), (vz "block_start" 580), (vz "/claim/cut.py" 581), vi 256, vi 2, vi 0, vi 0, vi 3, (.ref 316), (.bool true), vi 181, (.ref 317), .none, (.ref 318), (.ref 319), (.ref 320), vi 585, vi 256, (vz "/claim/cut.py" 586)]),
 (322, fO "block_start" "block_start" (tS 32) .none "htmltree.bodyblocks" 493 321),
 (367, cO #[(vz "__init__" 649), (vz "Formatting.__init__" 650), (vz "/claim/cut.py" 651), vi 283, vi 2, vi 0, vi 0, vi 3, (.ref 362), (.bool true), vi 181, (.ref 363), .none, (.ref 364), (.ref 365), (.ref 366), vi 654, vi 283, (vz "/claim/cut.py" 655)]),
 (368, fO "__init__" "Formatting.__init__" (iS 37 0) .none "htmltree.formatting" 635 367),
 (433, ⟨(.type "dict"), none, (.dict #[de P "__module__" 644 (vz "htmltree.formatting" 635), de P "__firstlineno__" 648 (Value.int 281 647), de P "__init__" 656 (.ref 368), de P "push" 667 (.ref 375), de P "mark" 674 (.ref 382), de P "clear_to_mark" 681 (.ref 389), de P "find" 689 (.ref 396), de P "has" 697 (.ref 403), de P "place" 705 (.ref 410), de P "remove" 713 (.ref 417), de P "replace" 722 (.ref 424), de P "put_at" 731 (.ref 431), de P "__static_attributes__" 734 (.ref 432), de P "__dict__" 736 (.ref 435), de P "__weakref__" 738 (.ref 436), de P "__doc__" 739 .none] 4), #[]⟩),
 (434, ⟨(.type "type"), none, (.cls ⟨(zs "Formatting"), [(.type "object")], [(.ref 434), (.type "object")], 433, (zs "Formatting"), true, [], [], false, none, false⟩), #[none, none, (some (vz "Formatting" 637)), (some (vz "Formatting" 645)), (some (.builtin "object.__new__")), (some (.bool true))]⟩),
 (458, cO #[(vz "__init__" 766), (vz "Tree.__init__" 767), (vz "/claim/cut.py" 768), vi 338, vi 1, vi 0, vi 0, vi 3, (.ref 453), (.bool true), vi 181, (.ref 454), .none, (.ref 455), (.ref 456), (.ref 457), vi 770, vi 338, (vz "/claim/cut.py" 771)]),
 (459, fO "__init__" "Tree.__init__" (iS 40 0) .none "htmltree.tree" 752 458),
 (460, ⟨(.type "tuple"), none, (.seq #[] 0), #[]⟩),
 (461, ⟨(.type "tuple"), none, (.seq #[(vz "" 773), (vz "" 774), (.ref 460), (vz "" 775)] 0), #[]⟩),
 (467, cO #[(vz "add" 776), (vz "Tree.add" 777), (vz "/claim/cut.py" 778), vi 349, vi 6, vi 0, vi 0, vi 3, (.ref 462), (.bool true), vi 181, (.ref 463), .none, (.ref 464), (.ref 465), (.ref 466), vi 785, vi 349, (vz "/claim/cut.py" 786)]),
 (468, fO "add" "Tree.add" (iS 40 1) (.ref 461) "htmltree.tree" 752 467),
 (469, ⟨(.type "tuple"), none, (.seq #[] 0), #[]⟩),
 (470, ⟨(.type "tuple"), none, (.seq #[(vz "html" 788), (.ref 469)] 0), #[]⟩),
 (476, cO #[(vz "element" 789), (vz "Tree.element" 790), (vz "/claim/cut.py" 791), vi 359, vi 4, vi 0, vi 0, vi 3, (.ref 471), (.bool true), vi 181, (.ref 472), .none, (.ref 473), (.ref 474), (.ref 475), vi 797, vi 359, (vz "/claim/cut.py" 798)]),
 (477, fO "element" "Tree.element" (iS 40 2) (.ref 470) "htmltree.tree" 752 476),
 (499, ⟨(.type "tuple"), none, (.seq #[(Value.int (-1) 827)] 0), #[]⟩),
 (505, cO #[(vz "insert" 828), (vz "Tree.insert" 829), (vz "/claim/cut.py" 830), vi 374, vi 4, vi 0, vi 0, vi 3, (.ref 500), (.bool true), vi 181, (.ref 501), .none, (.ref 502), (.ref 503), (.ref 504), vi 836, vi 374, (vz "/claim/cut.py" 837)]),
 (506, fO "insert" "Tree.insert" (iS 40 6) (.ref 499) "htmltree.tree" 752 505),
 (512, cO #[(vz "append" 839), (vz "Tree.append" 840), (vz "/claim/cut.py" 841), vi 388, vi 3, vi 0, vi 0, vi 3, (.ref 507), (.bool true), vi 181, (.ref 508), .none, (.ref 509), (.ref 510), (.ref 511), vi 845, vi 388, (vz "/claim/cut.py" 846)]),
 (513, fO "append" "Tree.append" (iS 40 7) .none "htmltree.tree" 752 512),
 (519, cO #[(vz "remove" 848), (vz "Tree.remove" 849), (vz "/claim/cut.py" 850), vi 391, vi 2, vi 0, vi 0, vi 3, (.ref 514), (.bool true), vi 181, (.ref 515), .none, (.ref 516), (.ref 517), (.ref 518), vi 853, vi 391, (vz "/claim/cut.py" 854)]),
 (520, fO "remove" "Tree.remove" (iS 40 8) .none "htmltree.tree" 752 519),
 (547, cO #[(vz "value" 881), (vz "Tree.value" 882), (vz "/claim/cut.py" 883), vi 409, vi 3, vi 0, vi 0, vi 3, (.ref 542), (.bool true), vi 181, (.ref 543), .none, (.ref 544), (.ref 545), (.ref 546), vi 888, vi 409, (vz "/claim/cut.py" 889)]),
 (548, fO "value" "Tree.value" (iS 40 12) .none "htmltree.tree" 752 547),
 (554, cO #[(vz "is_html" 891), (vz "Tree.is_html" 892), (vz "/claim/cut.py" 893), vi 415, vi 3, vi 0, vi 0, vi 3, (.ref 549), (.bool true), vi 181, (.ref 550), .none, (.ref 551), (.ref 552), (.ref 553), vi 897, vi 415, (vz "/claim/cut.py" 898)]),
 (555, fO "is_html" "Tree.is_html" (iS 40 13) .none "htmltree.tree" 752 554),
 (557, ⟨(.type "dict"), none, (.dict #[de P "__module__" 761 (vz "htmltree.tree" 752), de P "__firstlineno__" 765 (Value.int 336 764), de P "__init__" 772 (.ref 459), de P "add" 787 (.ref 468), de P "element" 799 (.ref 477), de P "text" 807 (.ref 484), de P "comment" 815 (.ref 491), de P "doctype" 825 (.ref 498), de P "insert" 838 (.ref 506), de P "append" 847 (.ref 513), de P "remove" 855 (.ref 520), de P "move_children" 864 (.ref 527), de P "place" 872 (.ref 534), de P "last" 880 (.ref 541), de P "value" 890 (.ref 548), de P "is_html" 899 (.ref 555), de P "__static_attributes__" 908 (.ref 556), de P "__dict__" 910 (.ref 559), de P "__weakref__" 912 (.ref 560), de P "__doc__" 913 .none] 4), #[]⟩),
 (558, ⟨(.type "type"), none, (.cls ⟨(zs "Tree"), [(.type "object")], [(.ref 558), (.type "object")], 557, (zs "Tree"), true, [], [], false, none, false⟩), #[none, none, (some (vz "Tree" 754)), (some (vz "Tree" 762)), (some (.builtin "object.__new__")), (some (.bool true))]⟩),
 (568, cO #[(vz "above" 916), (vz "above" 917), (vz "/claim/cut.py" 918), vi 417, vi 2, vi 0, vi 0, vi 3, (.ref 563), (.bool true), vi 181, (.ref 564), .none, (.ref 565), (.ref 566), (.ref 567), vi 923, vi 417, (vz "/claim/cut.py" 924)]),
 (569, fO "above" "above" (tS 41) .none "htmltree.tree" 752 568),
 (577, ⟨(.type "tuple"), none, (.seq #[(.bool false)] 0), #[]⟩),
 (583, cO #[(vz "__init__" 940), (vz "Builder.__init__" 941), (vz "/claim/cut.py" 942), vi 427, vi 3, vi 0, vi 0, vi 3, (.ref 578), (.bool true), vi 181, (.ref 579), .none, (.ref 580), (.ref 581), (.ref 582), vi 946, vi 427, (vz "/claim/cut.py" 947)]),
 (584, fO "__init__" "Builder.__init__" (iS 43 0) (.ref 577) "htmltree.builder" 926 583),
 (590, cO #[(vz "error" 949), (vz "Builder.error" 950), (vz "/claim/cut.py" 951), vi 450, vi 2, vi 0, vi 0, vi 3, (.ref 585), (.bool true), vi 181, (.ref 586), .none, (.ref 587), (.ref 588), (.ref 589), vi 954, vi 450, (vz "/claim/cut.py" 955)]),
 (591, fO "error" "Builder.error" (iS 43 1) .none "htmltree.builder" 926 590),
 (597, cO #[(vz "to" 957), (vz "Builder.to" 958), (vz "/claim/cut.py" 959), vi 453, vi 2, vi 0, vi 0, vi 3, (.ref 592), (.bool true), vi 181, (.ref 593), .none, (.ref 594), (.ref 595), (.ref 596), vi 962, vi 453, (vz "/claim/cut.py" 963)]),
 (598, fO "to" "Builder.to" (iS 43 2) .none "htmltree.builder" 926 597),
 (635, ⟨(.type "dict"), none, (.dict #[de P "__module__" 935 (vz "htmltree.builder" 926), de P "__firstlineno__" 939 (Value.int 425 938), de P "__init__" 948 (.ref 584), de P "error" 956 (.ref 591), de P "to" 964 (.ref 598), de P "use" 973 (.ref 605), de P "process" 981 (.ref 612), de P "feed" 989 (.ref 619), de P "adjusted" 996 (.ref 626), de P "is_foreign" 1003 (.ref 633), de P "__static_attributes__" 1025 (.ref 634), de P "__dict__" 1027 (.ref 637), de P "__weakref__" 1029 (.ref 638), de P "__doc__" 1030 .none] 4), #[]⟩),
 (636, ⟨(.type "type"), none, (.cls ⟨(zs "Builder"), [(.type "object")], [(.ref 636), (.type "object")], 635, (zs "Builder"), true, [], [], false, none, false⟩), #[none, none, (some (vz "Builder" 928)), (some (vz "Builder" 936)), (some (.builtin "object.__new__")), (some (.bool true))]⟩),
 (646, cO #[(vz "_law_digit" 1035), (vz "_law_digit" 1036), (vz "/claim/cut.py" 1037), vi 471, vi 2, vi 0, vi 0, vi 3, (.ref 641), (.bool true), vi 181, (.ref 642), .none, (.ref 643), (.ref 644), (.ref 645), vi 1040, vi 471, (vz "/claim/cut.py" 1041)]),
 (647, fO "_law_digit" "_law_digit" (tS 45) .none "law_nt0616_01" 1033 646),
 (653, cO #[(vz "_law_scenes" 1043), (vz "_law_scenes" 1044), (vz "/claim/cut.py" 1045), vi 473, vi 0, vi 0, vi 0, vi 3, (.ref 648), (.bool true), vi 181, (.ref 649), .none, (.ref 650), (.ref 651), (.ref 652), vi 1046, vi 473, (vz "/claim/cut.py" 1047)]),
 (654, fO "_law_scenes" "_law_scenes" (tS 46) .none "law_nt0616_01" 1033 653),
 (660, cO #[(vz "_law_tags" 1049), (vz "_law_tags" 1050), (vz "/claim/cut.py" 1051), vi 475, vi 0, vi 0, vi 0, vi 3, (.ref 655), (.bool true), vi 181, (.ref 656), .none, (.ref 657), (.ref 658), (.ref 659), vi 1054, vi 475, (vz "/claim/cut.py" 1055)]),
 (661, fO "_law_tags" "_law_tags" (tS 47) .none "law_nt0616_01" 1033 660),
 (667, cO #[(vz "_law_words" 1057), (vz "_law_words" 1058), (vz "/claim/cut.py" 1059), vi 479, vi 3, vi 0, vi 0, vi 3, (.ref 662), (.bool true), vi 181, (.ref 663), .none, (.ref 664), (.ref 665), (.ref 666), vi 1072, vi 479, (vz "/claim/cut.py" 1073)]),
 (668, fO "_law_words" "_law_words" (tS 48) .none "law_nt0616_01" 1033 667),
 (672, cO #[(vz "_law_ready" 1075), (vz "_law_ready" 1076), (vz "/claim/cut.py" 1077), vi 496, vi 3, vi 0, vi 0, vi 3, (.ref 669), (.bool true), vi 181, (.ref 670), .none, .none, .none, (.ref 671), vi 1078, vi 496, (vz "/claim/cut.py" 1079)]),
 (673, fO "_law_ready" "_law_ready" (tS 49) .none "law_nt0616_01" 1033 672),
 (677, cO #[(vz "_law_copy" 1081), (vz "_law_copy" 1082), (vz "/claim/cut.py" 1083), vi 519, vi 1, vi 0, vi 0, vi 3, (.ref 674), (.bool true), vi 181, (.ref 675), .none, .none, .none, (.ref 676), vi 1084, vi 519, (vz "/claim/cut.py" 1085)]),
 (678, fO "_law_copy" "_law_copy" (tS 50) .none "law_nt0616_01" 1033 677),
 (682, cO #[(vz "_law_open" 1087), (vz "_law_open" 1088), (vz "/claim/cut.py" 1089), vi 522, vi 1, vi 0, vi 0, vi 3, (.ref 679), (.bool true), vi 181, (.ref 680), .none, .none, .none, (.ref 681), vi 1090, vi 522, (vz "/claim/cut.py" 1091)]),
 (683, fO "_law_open" "_law_open" (tS 51) .none "law_nt0616_01" 1033 682),
 (687, cO #[(vz "_law_solid" 1093), (vz "_law_solid" 1094), (vz "/claim/cut.py" 1095), vi 524, vi 1, vi 0, vi 0, vi 3, (.ref 684), (.bool true), vi 181, (.ref 685), .none, .none, .none, (.ref 686), vi 1096, vi 524, (vz "/claim/cut.py" 1097)]),
 (688, fO "_law_solid" "_law_solid" (tS 52) .none "law_nt0616_01" 1033 687),
 (692, cO #[(vz "_law_ends" 1099), (vz "_law_ends" 1100), (vz "/claim/cut.py" 1101), vi 527, vi 2, vi 0, vi 0, vi 3, (.ref 689), (.bool true), vi 181, (.ref 690), .none, .none, .none, (.ref 691), vi 1102, vi 527, (vz "/claim/cut.py" 1103)]),
 (693, fO "_law_ends" "_law_ends" (tS 53) .none "law_nt0616_01" 1033 692),
 (697, cO #[(vz "_law_place" 1105), (vz "_law_place" 1106), (vz "/claim/cut.py" 1107), vi 536, vi 3, vi 0, vi 0, vi 3, (.ref 694), (.bool true), vi 181, (.ref 695), .none, .none, .none, (.ref 696), vi 1108, vi 536, (vz "/claim/cut.py" 1109)]),
 (698, fO "_law_place" "_law_place" (tS 54) .none "law_nt0616_01" 1033 697),
 (704, cO #[(vz "_law_close" 1111), (vz "_law_close" 1112), (vz "/claim/cut.py" 1113), vi 542, vi 3, vi 0, vi 0, vi 3, (.ref 699), (.bool true), vi 181, (.ref 700), .none, (.ref 701), (.ref 702), (.ref 703), vi 1118, vi 542, (vz "/claim/cut.py" 1119)]),
 (705, fO "_law_close" "_law_close" (tS 55) .none "law_nt0616_01" 1033 704),
 (711, cO #[(vz "_law_put" 1121), (vz "_law_put" 1122), (vz "/claim/cut.py" 1123), vi 549, vi 3, vi 0, vi 0, vi 3, (.ref 706), (.bool true), vi 181, (.ref 707), .none, (.ref 708), (.ref 709), (.ref 710), vi 1131, vi 549, (vz "/claim/cut.py" 1132)]),
 (712, fO "_law_put" "_law_put" (tS 56) .none "law_nt0616_01" 1033 711),
 (716, cO #[(vz "_law_reopen" 1134), (vz "_law_reopen" 1135), (vz "/claim/cut.py" 1136), vi 559, vi 1, vi 0, vi 0, vi 3, (.ref 713), (.bool true), vi 181, (.ref 714), .none, .none, .none, (.ref 715), vi 1137, vi 559, (vz "/claim/cut.py" 1138)]),
 (717, fO "_law_reopen" "_law_reopen" (tS 57) .none "law_nt0616_01" 1033 716),
 (723, cO #[(vz "_law_told_wrong" 1140), (vz "_law_told_wrong" 1141), (vz "/claim/cut.py" 1142), vi 564, vi 1, vi 0, vi 0, vi 3, (.ref 718), (.bool true), vi 181, (.ref 719), .none, (.ref 720), (.ref 721), (.ref 722), vi 1144, vi 564, (vz "/claim/cut.py" 1145)]),
 (724, fO "_law_told_wrong" "_law_told_wrong" (tS 58) .none "law_nt0616_01" 1033 723),
 (728, cO #[(vz "_law_ahead" 1147), (vz "_law_ahead" 1148), (vz "/claim/cut.py" 1149), vi 566, vi 3, vi 0, vi 0, vi 3, (.ref 725), (.bool true), vi 181, (.ref 726), .none, .none, .none, (.ref 727), vi 1150, vi 566, (vz "/claim/cut.py" 1151)]),
 (729, fO "_law_ahead" "_law_ahead" (tS 59) .none "law_nt0616_01" 1033 728),
 (735, cO #[(vz "_law_due" 1153), (vz "_law_due" 1154), (vz "/claim/cut.py" 1155), vi 584, vi 4, vi 0, vi 0, vi 3, (.ref 730), (.bool true), vi 181, (.ref 731), .none, (.ref 732), (.ref 733), (.ref 734), vi 1165, vi 584, (vz "/claim/cut.py" 1166)]),
 (736, fO "_law_due" "_law_due" (tS 60) .none "law_nt0616_01" 1033 735),
 (742, cO #[(vz "_law_flags" 1168), (vz "_law_flags" 1169), (vz "/claim/cut.py" 1170), vi 601, vi 1, vi 0, vi 0, vi 3, (.ref 737), (.bool true), vi 181, (.ref 738), .none, (.ref 739), (.ref 740), (.ref 741), vi 1173, vi 601, (vz "/claim/cut.py" 1174)]),
 (743, fO "_law_flags" "_law_flags" (tS 61) .none "law_nt0616_01" 1033 742),
 (749, cO #[(vz "_law_set_back" 1176), (vz "_law_set_back" 1177), (vz "/claim/cut.py" 1178), vi 604, vi 1, vi 0, vi 0, vi 3, (.ref 744), (.bool true), vi 181, (.ref 745), .none, (.ref 746), (.ref 747), (.ref 748), vi 1180, vi 604, (vz "/claim/cut.py" 1181)]),
 (750, fO "_law_set_back" "_law_set_back" (tS 62) .none "law_nt0616_01" 1033 749),
 (754, cO #[(vz "_law_is_due" 1183), (vz "_law_is_due" 1184), (vz "/claim/cut.py" 1185), vi 611, vi 2, vi 0, vi 0, vi 3, (.ref 751), (.bool true), vi 181, (.ref 752), .none, .none, .none, (.ref 753), vi 1186, vi 611, (vz "/claim/cut.py" 1187)]),
 (755, fO "_law_is_due" "_law_is_due" (tS 63) .none "law_nt0616_01" 1033 754)]
section
variable (P : Params)
theorem gl_is_special : nsIn (gK P) mainGlobals (zs "is_special") = some (some (.ref 28)) := by kernel_rfl
theorem Eh : nsIn (gK P) mainGlobals (zs "is_heading") = some (some (.ref 35)) := by kernel_rfl
theorem Fx : nsIn (gK P) mainGlobals (zs "implied_names") = some (some (.ref 49)) := by kernel_rfl
theorem HR : nsIn (gK P) mainGlobals (zs "stops_scope") = some (some (.ref 161)) := by kernel_rfl
theorem GQ : nsIn (gK P) mainGlobals (zs "in_scope") = some (some (.ref 169)) := by kernel_rfl
theorem Cu : nsIn (gK P) mainGlobals (zs "pop_implied") = some (some (.ref 177)) := by kernel_rfl
theorem gl_place_for : nsIn (gK P) mainGlobals (zs "place_for") = some (some (.ref 192)) := by kernel_rfl
theorem gl_make : nsIn (gK P) mainGlobals (zs "make") = some (some (.ref 200)) := by kernel_rfl
theorem DC : nsIn (gK P) mainGlobals (zs "insert_element") = some (some (.ref 209)) := by kernel_rfl
theorem B3 : nsIn (gK P) mainGlobals (zs "insert_token") = some (some (.ref 216)) := by kernel_rfl
theorem HT : nsIn (gK P) mainGlobals (zs "insert_void") = some (some (.ref 223)) := by kernel_rfl
theorem gl_associate : nsIn (gK P) mainGlobals (zs "associate") = some (some (.ref 230)) := by kernel_rfl
theorem E1 : nsIn (gK P) mainGlobals (zs "reconstruct") = some (some (.ref 237)) := by kernel_rfl
theorem gl_close_p : nsIn (gK P) mainGlobals (zs "close_p") = some (some (.ref 244)) := by kernel_rfl
theorem gl_start_raw : nsIn (gK P) mainGlobals (zs "start_raw") = some (some (.ref 251)) := by kernel_rfl
theorem Cv : nsIn (gK P) mainGlobals (zs "leave_p") = some (some (.ref 258)) := by kernel_rfl
theorem HU : nsIn (gK P) mainGlobals (zs "close_named") = some (some (.ref 266)) := by kernel_rfl
theorem HV : nsIn (gK P) mainGlobals (zs "start_block") = some (some (.ref 273)) := by kernel_rfl
theorem gl_open_item : nsIn (gK P) mainGlobals (zs "open_item") = some (some (.ref 280)) := by kernel_rfl
theorem Ei : nsIn (gK P) mainGlobals (zs "start_item") = some (some (.ref 287)) := by kernel_rfl
theorem gl_start_form : nsIn (gK P) mainGlobals (zs "start_form") = some (some (.ref 294)) := by kernel_rfl
theorem Gm : nsIn (gK P) mainGlobals (zs "start_button") = some (some (.ref 301)) := by kernel_rfl
theorem HW : nsIn (gK P) mainGlobals (zs "start_table") = some (some (.ref 308)) := by kernel_rfl
theorem gl_start_xmp : nsIn (gK P) mainGlobals (zs "start_xmp") = some (some (.ref 315)) := by kernel_rfl
theorem HX : nsIn (gK P) mainGlobals (zs "block_start") = some (some (.ref 322)) := by kernel_rfl
theorem gl_above : nsIn (gK P) mainGlobals (zs "above") = some (some (.ref 569)) := by kernel_rfl
theorem De : nsIn (gK P) mainGlobals (zs "_law_digit") = some (some (.ref 647)) := by kernel_rfl
theorem gl_law_scenes : nsIn (gK P) mainGlobals (zs "_law_scenes") = some (some (.ref 654)) := by kernel_rfl
theorem gl_law_tags : nsIn (gK P) mainGlobals (zs "_law_tags") = some (some (.ref 661)) := by kernel_rfl
theorem gl_law_words : nsIn (gK P) mainGlobals (zs "_law_words") = some (some (.ref 668)) := by kernel_rfl
theorem gl_law_ready : nsIn (gK P) mainGlobals (zs "_law_ready") = some (some (.ref 673)) := by kernel_rfl
theorem gl_law_copy : nsIn (gK P) mainGlobals (zs "_law_copy") = some (some (.ref 678)) := by kernel_rfl
theorem DD : nsIn (gK P) mainGlobals (zs "_law_open") = some (some (.ref 683)) := by kernel_rfl
theorem gl_law_solid : nsIn (gK P) mainGlobals (zs "_law_solid") = some (some (.ref 688)) := by kernel_rfl
theorem gl_law_ends : nsIn (gK P) mainGlobals (zs "_law_ends") = some (some (.ref 693)) := by kernel_rfl
theorem F9 : nsIn (gK P) mainGlobals (zs "_law_place") = some (some (.ref 698)) := by kernel_rfl
theorem Cn : nsIn (gK P) mainGlobals (zs "_law_close") = some (some (.ref 705)) := by kernel_rfl
theorem HY : nsIn (gK P) mainGlobals (zs "_law_put") = some (some (.ref 712)) := by kernel_rfl
theorem gl_law_reopen : nsIn (gK P) mainGlobals (zs "_law_reopen") = some (some (.ref 717)) := by kernel_rfl
theorem C8 : nsIn (gK P) mainGlobals (zs "_law_told_wrong") = some (some (.ref 724)) := by kernel_rfl
theorem gl_law_ahead : nsIn (gK P) mainGlobals (zs "_law_ahead") = some (some (.ref 729)) := by kernel_rfl
theorem gl_law_due : nsIn (gK P) mainGlobals (zs "_law_due") = some (some (.ref 736)) := by kernel_rfl
theorem gl_law_flags : nsIn (gK P) mainGlobals (zs "_law_flags") = some (some (.ref 743)) := by kernel_rfl
theorem Gn : nsIn (gK P) mainGlobals (zs "_law_set_back") = some (some (.ref 750)) := by kernel_rfl
theorem gl_law_is_due : nsIn (gK P) mainGlobals (zs "_law_is_due") = some (some (.ref 755)) := by kernel_rfl
theorem gl_OpenStack : nsIn (gK P) mainGlobals (zs "OpenStack") = some (some (.ref 150)) := by kernel_rfl
theorem gl_Formatting : nsIn (gK P) mainGlobals (zs "Formatting") = some (some (.ref 434)) := by kernel_rfl
theorem gl_Tree : nsIn (gK P) mainGlobals (zs "Tree") = some (some (.ref 558)) := by kernel_rfl
theorem gl_Builder : nsIn (gK P) mainGlobals (zs "Builder") = some (some (.ref 636)) := by kernel_rfl
theorem BN : nsIn (gK P) mainGlobals (zs "len") = some none := by kernel_rfl
theorem DU : nsIn (gK P) mainGlobals (zs "range") = some none := by kernel_rfl
theorem C9 : nsIn (gK P) mainGlobals (zs "list") = some none := by kernel_rfl
theorem gl_tuple : nsIn (gK P) mainGlobals (zs "tuple") = some none := by kernel_rfl
theorem gl_dict : nsIn (gK P) mainGlobals (zs "dict") = some none := by kernel_rfl
theorem gl_enumerate : nsIn (gK P) mainGlobals (zs "enumerate") = some none := by kernel_rfl
theorem gl_max : nsIn (gK P) mainGlobals (zs "max") = some none := by kernel_rfl
theorem gl_str : nsIn (gK P) mainGlobals (zs "str") = some none := by kernel_rfl
end
end Mine
namespace Mine
inductive V where
 | none
 | bool (b : Bool)
 | int (i : Int)
 | str (s : Str)
 | ref (a : Addr)
 | bi (id : String)
 | ty (n : String)
 | tup (xs : List V)
noncomputable abbrev DP (vs : List Value) (n : Nat) : Obj := { cls := .type "tuple", data := .seq vs.toArray n }
noncomputable abbrev Cc (vs : List Value) (n : Nat) : Obj := { cls := .type "list", data := .seq vs.toArray n }
noncomputable abbrev Er (es : List DictEntry) (n : Nat) : Obj := { cls := .type "dict", data := .dict es.toArray n }
mutual
inductive Is (h : Heap) : Value → V → Prop
 | none : Is h .none .none
 | bool (b) : Is h (.bool b) (.bool b)
 | int (i t) : Is h (.int i t) (.int i)
 | str (s t) : Is h (.str s t) (.str s)
 | ref (a) : Is h (.ref a) (.ref a)
 | bi (id) : Is h (.builtin id) (.bi id)
 | ty (n) : Is h (.type n) (.ty n)
 | tup {a vs n ds} : h.get? a = some (DP vs n) → IsS h vs ds → Is h (.ref a) (.tup ds)
inductive IsS (h : Heap) : List Value → List V → Prop
 | nil : IsS h [] []
 | cons {v d vs ds} : Is h v d → IsS h vs ds → IsS h (v :: vs) (d :: ds)
end
noncomputable def Keeps (h h' : Heap) : Prop := ∀ a vs n, h.get? a = some (DP vs n) → h'.get? a = some (DP vs n)
theorem Keeps.refl (h : Heap) : Keeps h h := fun _ _ _ e => e
theorem Keeps.trans {h h' h'' : Heap} (x : Keeps h h') (y : Keeps h' h'') : Keeps h h'' := fun a vs n e => y a vs n (x a vs n e)
theorem Keeps.of_all {h h' : Heap} (x : ∀ b o, h.get? b = some o → h'.get? b = some o) : Keeps h h' := fun _ _ _ e => x _ _ e
theorem Keeps.push (h : Heap) (o : Obj) : Keeps h (h.push o) := Keeps.of_all fun _ _ e => Heap.get?_push_of_some o e
mutual
theorem Is.mono {h h' : Heap} (k : Keeps h h') : ∀ {v d}, Is h v d → Is h' v d
 | _, _, .none => .none
 | _, _, .bool b => .bool b
 | _, _, .int i t => .int i t
 | _, _, .str s t => .str s t
 | _, _, .ref a => .ref a
 | _, _, .bi i => .bi i
 | _, _, .ty n => .ty n
 | _, _, .tup e x => .tup (k _ _ _ e) (IsS.mono k x)
theorem IsS.mono {h h' : Heap} (k : Keeps h h') : ∀ {vs ds}, IsS h vs ds → IsS h' vs ds
 | _, _, .nil => .nil
 | _, _, .cons a b => .cons (Is.mono k a) (IsS.mono k b)
end
theorem IsS.length {h : Heap} : ∀ {vs ds}, IsS h vs ds → vs.length = ds.length
 | _, _, .nil => rfl
 | _, _, .cons _ b => by simp [IsS.length b]
theorem IsS.append {h : Heap} : ∀ {vs ds vs' ds'}, IsS h vs ds → IsS h vs' ds' → IsS h (vs ++ vs') (ds ++ ds')
 | _, _, _, _, .nil, y => y
 | _, _, _, _, .cons a b, y => .cons a (b.append y)
theorem IsS.one {h : Heap} {v d} (x : Is h v d) : IsS h [v] [d] := .cons x .nil
theorem IsS.get {h : Heap} : ∀ {vs ds}, IsS h vs ds → ∀ (i : Nat) d, ds[i]? = some d → ∃ v, vs[i]? = some v ∧ Is h v d
 | _, _, .nil, i, d, e => by simp at e
 | _, _, .cons a b, 0, d, e => by cases e; exact ⟨_, rfl, a⟩
 | _, _, .cons a b, i + 1, d, e => by simpa using b.get i d (by simpa using e)
theorem IsS.take {h : Heap} : ∀ {vs ds}, IsS h vs ds → ∀ (i : Nat), IsS h (vs.take i) (ds.take i)
 | _, _, .nil, i => by simp; exact .nil
 | _, _, .cons a b, 0 => .nil
 | _, _, .cons a b, i + 1 => .cons a (b.take i)
theorem IsS.set {h : Heap} {v d} (x : Is h v d) : ∀ {vs ds}, IsS h vs ds → ∀ (i : Nat), IsS h (vs.set i v) (ds.set i d)
 | _, _, .nil, i => .nil
 | _, _, .cons a b, 0 => .cons x b
 | _, _, .cons a b, i + 1 => .cons a (b.set x i)
noncomputable abbrev Loc := List (Str × V)
inductive Cell where
 | list (xs : List V)
 | sdict (es : List (Str × V))
 | idict (es : List (Int × V))
 | inst (C dx : Addr)
 | nsd (es : List (Str × V))
 | cell (v : Option V)
 | ns (m : Loc)
 | pr (P : Obj → Prop)
noncomputable abbrev Store := List (Addr × Cell)
structure HS extends Heap where
 os : OsState
 gens : Array GenState
noncomputable abbrev Hp (s : Shared) : HS := ⟨s.heap, s.os, s.gens⟩
noncomputable abbrev HS.at (h : HS) (h' : Heap) : HS := ⟨h', h.os, h.gens⟩
structure G where
 os : OsState
 gens : Array GenState
 prog : Program
 w : World
 hb : Heap
 mg : Str → Option Value
 mb : Str → Option Value
 p : Program
 loose : List Str
 X : (gK w.params).In hb
 T : TopRead p loose mg mb hb
noncomputable abbrev G.K (g : G) : Frag := gK g.w.params
inductive EntS (P : Params) (h : Heap) : List DictEntry → List (Str × V) → Prop
 | nil : EntS P h [] []
 | cons {k t v d es ds} : Is h v d → EntS P h es ds → EntS P h (⟨PyData.keyHash P k, .str k t, v⟩ :: es) ((k, d) :: ds)
theorem EntS.mono {P : Params} {h h' : Heap} (k : Keeps h h') {a b} (x : EntS P h a b) : EntS P h' a b := by
 induction x with
 | nil => exact .nil
 | cons y _ ih => exact .cons (y.mono k) ih
theorem EntS.length {P : Params} {h : Heap} {a b} (x : EntS P h a b) : a.length = b.length := by
 induction x with
 | nil => rfl
 | cons y _ ih => simp [ih]
theorem EntS.getL {P : Params} {h : Heap} {a b} (x : EntS P h a b) (n : Str) : (b.lookup n = none → getL n a = some none) ∧ ∀ d, b.lookup n = some d → ∃ v, getL n a = some (some v) ∧ Is h v d := by
 have key : (∀ e ∈ a, e.refKey = false) := by
  induction x with
  | nil => intro e he; cases he
  | cons y _ ih => intro e he; rcases List.mem_cons.mp he with rfl | he; rfl; exact ih e he
 have nor : a.any (·.refKey) = false := List.any_eq_false.mpr fun e he => by rw [key e he]; exact Bool.false_ne_true
 have find : (b.lookup n = none → a.find? (·.key.isStr n) = none) ∧ ∀ d, b.lookup n = some d → ∃ e, a.find? (·.key.isStr n) = some e ∧ Is h e.val d := by
  clear key nor
  induction x with
  | nil => exact ⟨fun _ => rfl, fun d e => by cases e⟩
  | @cons k t v d es ds y _ ih =>
   by_cases q : n = k
   ·subst q
    refine ⟨fun e => by simp at e, fun d' e => ⟨⟨PyData.keyHash P n, .str n t, v⟩, by simp [List.find?, Value.isStr], ?_⟩⟩
    simp at e; subst e; exact y
   ·have q' : (n == k) = false := beq_eq_false_iff_ne.mpr q
    have q'' : (k == n) = false := beq_eq_false_iff_ne.mpr fun z => q z.symm
    simp only [List.lookup, q', List.find?, Value.isStr, q'']
    exact ih
 unfold PySem.W.getL
 refine ⟨fun e => by rw [find.1 e, nor]; rfl, fun d e => ?_⟩
 obtain ⟨e', he, i⟩ := find.2 d e
 exact ⟨e'.val, by rw [he], i⟩
noncomputable def Es (n : Str) (d : V) : List (Str × V) → List (Str × V)
 | [] => [(n, d)]
 | (k, e) :: r => if n == k then (k, d) :: r else (k, e) :: Es n d r
inductive Vals {K : Type} (h : Heap) : List (K × Value) → List (K × V) → Prop
 | nil : Vals h [] []
 | cons {k v d es ds} : Is h v d → Vals h es ds → Vals h ((k, v) :: es) ((k, d) :: ds)
theorem EntS.put {P : Params} {h : Heap} {a b} (x : EntS P h a b) (n : Str) (t : Tok) {v : Value} {d : V} (i : Is h v d) : EntS P h (putL n (PyData.keyHash P n) (.str n t) v a) (Es n d b) := by
 induction x with
 | nil => exact .cons i .nil
 | @cons k t' v' d' es ds y z ih =>
  unfold putL Es
  by_cases q : n = k
  ·subst q
   rw [if_pos (by simp [Value.isStr]), if_pos (by simp)]
   exact .cons i z
  ·rw [if_neg (by simpa [Value.isStr] using fun z => q z.symm), if_neg (by simpa using q)]
   exact .cons y ih
theorem GR (n : Str) (d : V) : ∀ es : List (Str × V), (Es n d es).length ≤ es.length + 1
 | [] => Nat.le_refl _
 | (k, e) :: r => by
  unfold Es
  split
  ·simp
  ·have := GR n d r; simp; omega
theorem Vals.mono {K : Type} {h h' : Heap} (k : Keeps h h') {a : List (K × Value)} {b} (x : Vals h a b) : Vals h' a b := by
 induction x with
 | nil => exact .nil
 | cons y _ ih => exact .cons (y.mono k) ih
noncomputable def CellIs (g : G) (h : Heap) (a : Addr) : Cell → Prop
 | .list xs => ∃ vs n, h.get? a = some (Cc vs n) ∧ IsS h vs xs
 | .sdict es => ∃ kvs, h.DictOf (strKind g.prog g.w) a kvs ∧ Vals h kvs es
 | .idict es => ∃ kvs, h.DictOf (intKind g.prog g.w) a kvs ∧ Vals h kvs es
 | .inst C dx => h.get? a = some (instObj C dx)
 | .nsd es => ∃ en n, h.get? a = some (Er en n) ∧ EntS g.w.params h en es
 | .cell d => ∃ o v, h.get? a = some o ∧ o.data = .cell v ∧ (∀ d', d = some d' → ∃ v', v = some v' ∧ Is h v' d')
 | .ns m => ∃ ml, h.Ns a ml ∧ ∀ x d, m.lookup x = some d → ∃ v, ml x = some v ∧ Is h v d
 | .pr P => ∃ o, h.get? a = some o ∧ P o ∧ (∀ vs n, o ≠ DP vs n)
structure SGd (g : G) (σ : Store) (h : HS) : Prop where
 cells : ∀ p ∈ σ, CellIs g h.toHeap p.1 p.2
 nodup : (σ.map (·.1)).Nodup
 keep : ∀ b o, g.hb.get? b = some o → h.get? b = some o
 fresh : ∀ p ∈ σ, g.hb.get? p.1 = none
 big : ∀ p ∈ σ, 3 < p.1
 osq : h.os = g.os
 geq : h.gens = g.gens
theorem CellIs.obj {g : G} {h : Heap} {a : Addr} {c : Cell} (x : CellIs g h a c) : ∃ o, h.get? a = some o ∧ ∀ vs n, o ≠ DP vs n := by
 cases c with
 | list xs => obtain ⟨vs, n, e, _⟩ := x; exact ⟨_, e, fun _ _ q => absurd (congrArg Obj.cls q) (by simp)⟩
 | sdict es => obtain ⟨kvs, ⟨o, en, ep, e, hc, hd, _⟩, _⟩ := x; exact ⟨_, e, fun _ _ q => by subst q; cases hd⟩
 | idict es => obtain ⟨kvs, ⟨o, en, ep, e, hc, hd, _⟩, _⟩ := x; exact ⟨_, e, fun _ _ q => by subst q; cases hd⟩
 | inst C dx => exact ⟨_, x, fun _ _ q => by cases q⟩
 | nsd es => obtain ⟨en, n, e, _⟩ := x; exact ⟨_, e, fun _ _ q => absurd (congrArg Obj.cls q) (by simp)⟩
 | cell d => obtain ⟨o, v, e, hd, _⟩ := x; exact ⟨_, e, fun _ _ q => by subst q; cases hd⟩
 | ns m => obtain ⟨ml, ⟨o, en, ep, e, hd, _⟩, _⟩ := x; exact ⟨_, e, fun _ _ q => by subst q; cases hd⟩
 | pr P => obtain ⟨o, e, _, n⟩ := x; exact ⟨o, e, n⟩
theorem CellIs.move {g : G} {h h' : Heap} {a : Addr} {c : Cell} (x : CellIs g h a c) (e : h'.get? a = h.get? a) (k : Keeps h h') : CellIs g h' a c := by
 cases c with
 | list xs => obtain ⟨vs, n, q, y⟩ := x; exact ⟨vs, n, e.trans q, y.mono k⟩
 | sdict es => obtain ⟨kvs, ⟨o, en, ep, q, r⟩, y⟩ := x; exact ⟨kvs, ⟨o, en, ep, e.trans q, r⟩, y.mono k⟩
 | idict es => obtain ⟨kvs, ⟨o, en, ep, q, r⟩, y⟩ := x; exact ⟨kvs, ⟨o, en, ep, e.trans q, r⟩, y.mono k⟩
 | inst C dx => exact e.trans x
 | nsd es => obtain ⟨en, n, q, y⟩ := x; exact ⟨en, n, e.trans q, y.mono k⟩
 | cell d => obtain ⟨o, v, q, hd, y⟩ := x; exact ⟨o, v, e.trans q, hd, fun d' ed => let ⟨v', a, b⟩ := y d' ed; ⟨v', a, b.mono k⟩⟩
 | ns m => obtain ⟨ml, ⟨o, en, ep, q, r⟩, y⟩ := x; exact ⟨ml, ⟨o, en, ep, e.trans q, r⟩, fun z d hz => let ⟨v, a, b⟩ := y z d hz; ⟨v, a, b.mono k⟩⟩
 | pr P => obtain ⟨o, q, r⟩ := x; exact ⟨o, e.trans q, r⟩
theorem SGd.lt {g : G} {σ : Store} {h : HS} (S : SGd g σ h) {a : Addr} {c : Cell} (m : (a, c) ∈ σ) : a < h.objs.size := by
 obtain ⟨o, e, _⟩ := (S.cells _ m).obj
 exact Heap.lt_size e
theorem SGd.sub {g : G} {σ σ' : Store} {h : HS} (S : SGd g σ h) (hs : ∀ p ∈ σ', p ∈ σ) (hn : (σ'.map (·.1)).Nodup) : SGd g σ' h :=
 ⟨fun p hp => S.cells p (hs p hp), hn, S.keep, fun p hp => S.fresh p (hs p hp), fun p hp => S.big p (hs p hp), S.osq, S.geq⟩
theorem SGd.sublist {g : G} {σ σ' : Store} {h : HS} (S : SGd g σ h) (hs : σ'.Sublist σ) : SGd g σ' h :=
 S.sub (fun _ hp => hs.subset hp) ((hs.map _).nodup S.nodup)
theorem SGd.perm {g : G} {σ σ' : Store} {h : HS} (S : SGd g σ h) (hs : σ.Perm σ') : SGd g σ' h :=
 S.sub (fun _ hp => hs.symm.subset hp) ((hs.map _).nodup_iff.mp S.nodup)
theorem SGd.grow {g : G} {σ : Store} {h : HS} {h' : Heap} (S : SGd g σ h) (k : ∀ b o, h.get? b = some o → h'.get? b = some o) : SGd g σ (h.at h') :=
 ⟨fun p hp => by
  obtain ⟨o, e, _⟩ := (S.cells p hp).obj
  exact (S.cells p hp).move ((k _ _ e).trans e.symm) (Keeps.of_all k), S.nodup, fun b o e => k b o (S.keep b o e), S.fresh, S.big, S.osq, S.geq⟩
theorem SGd.addr_none {g : G} {σ : Store} {h : HS} (S : SGd g σ h) {a : Addr} (ha : h.objs.size ≤ a) : g.hb.get? a = none := by
 cases q : g.hb.get? a with
 | none => rfl
 | some o => exact absurd (Heap.lt_size (S.keep _ _ q)) (Nat.not_lt.mpr ha)
theorem SGd.alloc {g : G} {σ τ : Store} {h : HS} {h' : Heap} {a : Addr} {c : Cell} (S : SGd g (σ ++ τ) h) (k : ∀ b o, h.get? b = some o → h'.get? b = some o) (ha : h.objs.size ≤ a) (hc : CellIs g h' a c) :
  SGd g (σ ++ (a, c) :: τ) (h.at h') := by
 have S' := S.grow k
 have hn : ∀ p ∈ σ ++ τ, p.1 ≠ a := fun p hp e => by
  have := S.lt (a := p.1) (c := p.2) hp
  rw [e] at this
  exact absurd this (Nat.not_lt.mpr ha)
 have h3 : 3 < h.objs.size := by
  obtain ⟨o, es, ep, e, _⟩ := g.T.g
  exact Heap.lt_size (S.keep _ _ e)
 refine ⟨fun p hp => ?_, ?_, S'.keep, fun p hp => ?_, fun p hp => ?_, S.osq, S.geq⟩
 ·rcases List.mem_append.mp hp with q | q
  ·exact S'.cells p (List.mem_append_left _ q)
  ·rcases List.mem_cons.mp q with rfl | q
   ·exact hc
   ·exact S'.cells p (List.mem_append_right _ q)
 ·have : ((σ ++ (a, c) :: τ).map (·.1)).Perm (((a, c) :: (σ ++ τ)).map (·.1)) := List.Perm.map _ List.perm_middle
  refine this.nodup_iff.mpr (List.nodup_cons.mpr ⟨fun q => ?_, S.nodup⟩)
  obtain ⟨p, hp, e⟩ := List.mem_map.mp q
  exact hn p hp e
 ·rcases List.mem_append.mp hp with q | q
  ·exact S.fresh p (List.mem_append_left _ q)
  ·rcases List.mem_cons.mp q with rfl | q
   ·exact S.addr_none ha
   ·exact S.fresh p (List.mem_append_right _ q)
 ·rcases List.mem_append.mp hp with q | q
  ·exact S.big p (List.mem_append_left _ q)
  ·rcases List.mem_cons.mp q with rfl | q
   ·exact Nat.lt_of_lt_of_le h3 ha
   ·exact S.big p (List.mem_append_right _ q)
inductive Upd1 (a : Addr) (c c' : Cell) : Store → Store → Prop
 | head {r} : Upd1 a c c' ((a, c) :: r) ((a, c') :: r)
 | tail {p r r'} : Upd1 a c c' r r' → Upd1 a c c' (p :: r) (p :: r')
theorem Upd1.append_right {a : Addr} {c c' : Cell} {σ σ' : Store} (u : Upd1 a c c' σ σ') (τ : Store) : Upd1 a c c' (σ ++ τ) (σ' ++ τ) := by
 induction u with
 | head => exact .head
 | tail _ ih => exact .tail ih
theorem Upd1.append_left {a : Addr} {c c' : Cell} {σ σ' : Store} (u : Upd1 a c c' σ σ') : ∀ (τ : Store), Upd1 a c c' (τ ++ σ) (τ ++ σ')
 | [] => u
 | _ :: t => .tail (u.append_left t)
theorem Upd1.split {a : Addr} {c c' : Cell} {σ σ' : Store} (u : Upd1 a c c' σ σ') : ∃ pre post, σ = pre ++ (a, c) :: post ∧ σ' = pre ++ (a, c') :: post := by
 induction u with
 | head => exact ⟨[], _, rfl, rfl⟩
 | tail _ ih => obtain ⟨pre, post, rfl, rfl⟩ := ih; exact ⟨_ :: pre, post, rfl, rfl⟩
theorem Upd1.mem {a : Addr} {c c' : Cell} {σ σ' : Store} (u : Upd1 a c c' σ σ') : (a, c) ∈ σ := by
 obtain ⟨pre, post, rfl, _⟩ := u.split
 exact List.mem_append_right _ (.head _)
theorem SGd.turn {g : G} {σ σ' : Store} {h : HS} {h' : Heap} {a : Addr} {c c' : Cell} (S : SGd g σ h) (u : Upd1 a c c' σ σ') (hs : ∀ b o, b ≠ a → h.get? b = some o → h'.get? b = some o) (hc : Keeps h.toHeap h' → CellIs g h' a c') :
  SGd g σ' (h.at h') ∧ Keeps h.toHeap h' := by
 have hk : Keeps h.toHeap h' := fun b vs n e => by
  by_cases q : b = a
  ·subst q
   obtain ⟨o, e', hne⟩ := (S.cells _ u.mem).obj
   rw [e] at e'
   exact absurd (Option.some.inj e').symm (hne vs n)
  ·exact hs b _ q e
 refine ⟨?_, hk⟩
 obtain ⟨pre, post, rfl, rfl⟩ := u.split
 have nd := S.nodup
 rw [List.map_append, List.map_cons] at nd
 obtain ⟨_, nd2, ndx⟩ := List.nodup_append.mp nd
 obtain ⟨na, _⟩ := List.nodup_cons.mp nd2
 have hne : ∀ p, p ∈ pre ∨ p ∈ post → p.1 ≠ a := by
  rintro p (hp | hp) e
  ·exact ndx _ (List.mem_map_of_mem hp) _ (.head _) e
  ·exact na (e ▸ List.mem_map_of_mem (f := (·.1)) hp)
 have mv : ∀ p, p ∈ pre ∨ p ∈ post → CellIs g h' p.1 p.2 := fun p hp => by
  have hm : p ∈ pre ++ (a, c) :: post := hp.elim (List.mem_append_left _) fun q => List.mem_append_right _ (.tail _ q)
  obtain ⟨o, e, _⟩ := (S.cells p hm).obj
  exact (S.cells p hm).move ((hs _ _ (hne p hp) e).trans e.symm) hk
 refine ⟨fun p hp => ?_, by simpa using S.nodup, fun b o e => ?_, fun p hp => ?_, fun p hp => ?_, S.osq, S.geq⟩
 ·rcases List.mem_append.mp hp with q | q
  ·exact mv p (.inl q)
  ·rcases List.mem_cons.mp q with rfl | q
   ·exact hc hk
   ·exact mv p (.inr q)
 ·refine hs b o (fun q => ?_) (S.keep b o e)
  have := S.fresh (a, c) (List.mem_append_right _ (.head _))
  rw [← q, e] at this; cases this
 ·rcases List.mem_append.mp hp with q | q
  ·exact S.fresh p (List.mem_append_left _ q)
  ·rcases List.mem_cons.mp q with rfl | q
   ·exact S.fresh (a, c) (List.mem_append_right _ (.head _))
   ·exact S.fresh p (List.mem_append_right _ (.tail _ q))
 ·rcases List.mem_append.mp hp with q | q
  ·exact S.big p (List.mem_append_left _ q)
  ·rcases List.mem_cons.mp q with rfl | q
   ·exact S.big (a, c) (List.mem_append_right _ (.head _))
   ·exact S.big p (List.mem_append_right _ (.tail _ q))
theorem SGd.drop {g : G} {σ : Store} {h : HS} {h' : Heap} {a : Addr} {c : Cell} (S : SGd g ((a, c) :: σ) h) (hs : ∀ b o, b ≠ a → h.get? b = some o → h'.get? b = some o) : SGd g σ (h.at h') ∧ Keeps h.toHeap h' := by
 have hk : Keeps h.toHeap h' := fun b vs n e => by
  by_cases q : b = a
  ·subst q
   obtain ⟨o, e', hne⟩ := (S.cells _ (.head _)).obj
   rw [e] at e'
   exact absurd (Option.some.inj e').symm (hne vs n)
  ·exact hs b _ q e
 obtain ⟨na, nd⟩ := List.nodup_cons.mp S.nodup
 refine ⟨⟨fun p hp => ?_, nd, fun b o e => ?_, fun p hp => S.fresh p (.tail _ hp), fun p hp => S.big p (.tail _ hp), S.osq, S.geq⟩, hk⟩
 ·have hne : p.1 ≠ a := fun e => na (e ▸ List.mem_map_of_mem (f := (·.1)) hp)
  obtain ⟨o, e, _⟩ := (S.cells p (.tail _ hp)).obj
  exact (S.cells p (.tail _ hp)).move ((hs _ _ hne e).trans e.symm) hk
 ·refine hs b o (fun q => ?_) (S.keep b o e)
  have := S.fresh (a, c) (.head _)
  rw [← q, e] at this; cases this
end Mine
namespace Mine
structure Room (A : Around) (k : Nat) : Prop where
 handled : A.handled = none
 depth : A.depth + k < 900
 units : A.units + 10 * k + 100 < cLine
theorem Room.deeper {A : Around} {k : Nat} (r : Room A (k + 1)) (env : Env) : Room (A.deeper env) k :=
 ⟨r.handled, by have := r.depth; delta Around.deeper; dsimp only; omega, by have := r.units; delta Around.deeper; dsimp only; omega⟩
theorem Room.room {A : Around} {k : Nat} (r : Room A k) : A.depth < recursionLimit := by have := r.depth; show A.depth < 1000; omega
theorem Room.unit {A : Around} {k : Nat} (r : Room A k) : A.units < cLine := by have := r.units; omega
noncomputable def NoE : Value → Shared → Prop := fun _ _ => False
inductive Post {α β : Type} (g : G) (rel : Heap → α → β → Prop) (h : Heap) (Q : β → Store → Prop) (a : α) (s' : Shared) : Prop
 | mk (b : β) (σ' : Store) (i : rel s'.heap a b) (S : SGd g σ' (Hp s')) (k : Keeps h s'.heap) (q : Q b σ') : Post g rel h Q a s'
noncomputable def W {α β : Type} (g : G) (k : Nat) (rel : Heap → α → β → Prop) (σ : Store) (t : Sem α) (Q : β → Store → Prop) : Prop :=
 ∀ A, Room A k → ∀ s, SGd g σ (Hp s) → wpAny (model g.prog g.w) A t (Post g rel s.heap Q) NoE s
noncomputable def O1 {α β : Type} (g : G) (k : Nat) (rel : Heap → α → β → Prop) (σ : Store) (t : Value → Sem α) (d : V) (Q : β → Store → Prop) : Prop :=
 ∀ A, Room A k → ∀ s v, SGd g σ (Hp s) → Is s.heap v d → wpAny (model g.prog g.w) A (t v) (Post g rel s.heap Q) NoE s
noncomputable def O2 {α β : Type} (g : G) (k : Nat) (rel : Heap → α → β → Prop) (σ : Store) (t : Value → Value → Sem α) (d e : V) (Q : β → Store → Prop) : Prop :=
 ∀ A, Room A k → ∀ s v u, SGd g σ (Hp s) → Is s.heap v d → Is s.heap u e → wpAny (model g.prog g.w) A (t v u) (Post g rel s.heap Q) NoE s
noncomputable def O3 {α β : Type} (g : G) (k : Nat) (rel : Heap → α → β → Prop) (σ : Store) (t : Value → Value → Value → Sem α) (d e f : V) (Q : β → Store → Prop) : Prop :=
 ∀ A, Room A k → ∀ s v u x, SGd g σ (Hp s) → Is s.heap v d → Is s.heap u e → Is s.heap x f → wpAny (model g.prog g.w) A (t v u x) (Post g rel s.heap Q) NoE s
noncomputable def EqR {α : Type} : Heap → α → α → Prop := fun _ a b => a = b
noncomputable abbrev WE (g : G) (k : Nat) (σ : Store) (env : Env) (e : Expr) (Q : V → Store → Prop) : Prop := W g k Is σ (eval e env) Q
noncomputable abbrev WT (g : G) (k : Nat) (σ : Store) (env : Env) (e : Expr) (Q : Bool → Store → Prop) : Prop := W g k EqR σ (isTrue e env (eval e env)) Q
noncomputable abbrev WA (g : G) (k : Nat) (σ : Store) (env : Env) (pos : Pos) (es : List Expr) (Q : List V → Store → Prop) : Prop := W g k IsS σ (spliced (backTo pos (starEach es env))) Q
inductive Fl where
 | next | brk | cont | ret (d : V)
inductive IsFl (h : Heap) : Flow → Fl → Prop
 | next : IsFl h .next .next
 | brk : IsFl h .brk .brk
 | cont : IsFl h .cont .cont
 | ret {v d} : Is h v d → IsFl h (.ret v) (.ret d)
noncomputable abbrev WX (g : G) (k : Nat) (σ : Store) (env : Env) (st : Stmt) (Q : Fl → Store → Prop) : Prop := W g k IsFl σ (exec st env) Q
noncomputable abbrev WS (g : G) (k : Nat) (σ : Store) (env : Env) (ss : List Stmt) (Q : Fl → Store → Prop) : Prop := W g k IsFl σ (execs ss env) Q
section
variable (g : G) (k : Nat) (env : Env)
noncomputable abbrev Bin2 (t : Value → Value → Sem Value) (d₁ : V) (Q : V → Store → Prop) : V → Store → Prop := fun d₂ σ₂ => O2 g k Is σ₂ t d₁ d₂ Q
noncomputable abbrev Bin1 (r : Expr) (t : Value → Value → Sem Value) (Q : V → Store → Prop) : V → Store → Prop := fun d₁ σ₁ => WE g k σ₁ env r (Bin2 g k t d₁ Q)
noncomputable abbrev BoolK (Q : Bool → Store → Prop) : V → Store → Prop := fun d σ' => ∃ b, d = .bool b ∧ Q b σ'
noncomputable abbrev TrK (Q : Bool → Store → Prop) : V → Store → Prop := fun d σ' => O1 g k EqR σ' truthy d Q
noncomputable abbrev NotK (Q : Bool → Store → Prop) : Bool → Store → Prop := fun b σ' => Q (!b) σ'
noncomputable abbrev AndK (rest : List Expr) (pos : Pos) (Q : Bool → Store → Prop) : Bool → Store → Prop := fun b σ' => if b = true then WT g k σ' env (.BoolOp .And rest pos) Q else Q false σ'
noncomputable abbrev OrK (rest : List Expr) (pos : Pos) (Q : Bool → Store → Prop) : Bool → Store → Prop := fun b σ' => if b = true then Q true σ' else WT g k σ' env (.BoolOp .Or rest pos) Q
noncomputable abbrev And2 (es : List Expr) (pos : Pos) (Q : V → Store → Prop) (d : V) : Bool → Store → Prop := fun b σ'' => if b = true then WE g k σ'' env (.BoolOp .And es pos) Q else Q d σ''
noncomputable abbrev And1 (es : List Expr) (pos : Pos) (Q : V → Store → Prop) : V → Store → Prop := fun d σ' => O1 g k EqR σ' truthy d (And2 g k env es pos Q d)
noncomputable abbrev Or2 (es : List Expr) (pos : Pos) (Q : V → Store → Prop) (d : V) : Bool → Store → Prop := fun b σ'' => if b = true then Q d σ'' else WE g k σ'' env (.BoolOp .Or es pos) Q
noncomputable abbrev Or1 (es : List Expr) (pos : Pos) (Q : V → Store → Prop) : V → Store → Prop := fun d σ' => O1 g k EqR σ' truthy d (Or2 g k env es pos Q d)
noncomputable abbrev IfEK (body orelse : Expr) (Q : V → Store → Prop) : Bool → Store → Prop := fun b σ' => if b = true then WE g k σ' env body Q else WE g k σ' env orelse Q
noncomputable abbrev UnK (t : Value → Sem Value) (Q : V → Store → Prop) : V → Store → Prop := fun d σ' => O1 g k Is σ' t d Q
noncomputable abbrev Cons2 (d : V) (Q : List V → Store → Prop) : List V → Store → Prop := fun ds σ'' => Q (d :: ds) σ''
noncomputable abbrev Cons1 (pos : Pos) (es : List Expr) (Q : List V → Store → Prop) : V → Store → Prop := fun d σ' => WA g k σ' env pos es (Cons2 d Q)
noncomputable abbrev TupK (Q : V → Store → Prop) : List V → Store → Prop := fun ds σ' => ds.length ≤ sizeLine ∧ Q (.tup ds) σ'
noncomputable abbrev SeqK (rest : List Stmt) (Q : Fl → Store → Prop) : Fl → Store → Prop := fun fl σ' => match fl with | .next => WS g k σ' env rest Q | fl => Q fl σ'
noncomputable abbrev NextK (Q : Fl → Store → Prop) : Unit → Store → Prop := fun _ σ'' => Q .next σ''
noncomputable abbrev AsgK (x : Str) (Q : Fl → Store → Prop) : V → Store → Prop := fun d σ' => O1 g k EqR σ' (fun v => storeName env x v) d (NextK Q)
noncomputable abbrev AugK (op : Operator) (x : Str) (d₀ : V) (Q : Fl → Store → Prop) : V → Store → Prop := fun d σ' => O2 g k Is σ' (inplaceOp op) d₀ d (AsgK g k env x Q)
noncomputable abbrev AttK2 (attr : Str) (d : V) (Q : Fl → Store → Prop) : V → Store → Prop := fun e σ'' => O2 g k EqR σ'' (fun ov v => setAttr ov attr v) e d (NextK Q)
noncomputable abbrev AttK1 (o : Expr) (attr : Str) (Q : Fl → Store → Prop) : V → Store → Prop := fun d σ' => WE g k σ' env o (AttK2 g k attr d Q)
noncomputable abbrev SubK3 (d e : V) (Q : Fl → Store → Prop) : V → Store → Prop := fun f σ₃ => O3 g k EqR σ₃ (fun ov iv v => setItem ov iv v) e f d (NextK Q)
noncomputable abbrev SubK2 (i : Expr) (d : V) (Q : Fl → Store → Prop) : V → Store → Prop := fun e σ₂ => WE g k σ₂ env i (SubK3 g k d e Q)
noncomputable abbrev SubK1 (o i : Expr) (Q : Fl → Store → Prop) : V → Store → Prop := fun d σ₁ => WE g k σ₁ env o (SubK2 g k env i d Q)
noncomputable abbrev IfK (body orelse : List Stmt) (Q : Fl → Store → Prop) : Bool → Store → Prop := fun b σ' => if b = true then WS g k σ' env body Q else WS g k σ' env orelse Q
noncomputable abbrev RetK (Q : Fl → Store → Prop) : V → Store → Prop := fun d σ' => Q (.ret d) σ'
noncomputable abbrev AsTK (target : Expr) (Q : Fl → Store → Prop) : V → Store → Prop := fun d σ' => O1 g k EqR σ' (assign target env) d (NextK Q)
noncomputable abbrev UnitK (Q : Unit → Store → Prop) : Store → Prop := fun σ' => Q () σ'
noncomputable abbrev BodyK (body : List Stmt) (B : Fl → Store → Prop) : Unit → Store → Prop := fun _ σ' => WS g k σ' env body B
noncomputable abbrev TestK (body : List Stmt) (B Q : Fl → Store → Prop) : Bool → Store → Prop := fun b σ' => if b = true then WS g k σ' env body B else Q .next σ'
end
section
variable {α β γ δ : Type} {g : G} {k : Nat} {σ : Store} {A : Around} {s : Shared}
theorem Post.weak {rel : Heap → α → β → Prop} {h h' : Heap} {Q Q' : β → Store → Prop} {a : α} {s' : Shared} (kp : Keeps h h') (q : ∀ b σ', Q b σ' → Q' b σ') (x : Post g rel h' Q a s') : Post g rel h Q' a s' :=
 let ⟨b, σ', r, S, k, y⟩ := x; ⟨b, σ', r, S, kp.trans k, q b σ' y⟩
theorem W.run {rel : Heap → α → β → Prop} {t : Sem α} {Q : β → Store → Prop} {P : α → Shared → Prop} (h : W g k rel σ t Q) (r : Room A k) (S : SGd g σ (Hp s))
  (next : ∀ a b σ' s', rel s'.heap a b → SGd g σ' (Hp s') → Keeps s.heap s'.heap → Q b σ' → P a s') : wpAny (model g.prog g.w) A t P NoE s :=
 wpAny_mono (h A r s S) (fun a s' ⟨b, σ', x, S', kp, q⟩ => next a b σ' s' x S' kp q) fun _ _ e => e
theorem O1.run {rel : Heap → α → β → Prop} {t : Value → Sem α} {d : V} {v : Value} {Q Q' : β → Store → Prop} {h₀ : Heap} (h : O1 g k rel σ t d Q) (r : Room A k) (S : SGd g σ (Hp s)) (iv : Is s.heap v d) (kp : Keeps h₀ s.heap)
  (next : ∀ b σ', Q b σ' → Q' b σ') : wpAny (model g.prog g.w) A (t v) (Post g rel h₀ Q') NoE s :=
 wpAny_mono (h A r s v S iv) (fun a s' x => x.weak kp next) fun _ _ e => e
theorem W.go {rel : Heap → α → β → Prop} {t : Sem α} {Q : β → Store → Prop} {h₀ : Heap} (h : W g k rel σ t Q) (r : Room A k) (S : SGd g σ (Hp s)) (kp : Keeps h₀ s.heap) : wpAny (model g.prog g.w) A t (Post g rel h₀ Q) NoE s :=
 wpAny_mono (h A r s S) (fun a s' x => x.weak kp fun _ _ q => q) fun _ _ e => e
theorem O1.go {rel : Heap → α → β → Prop} {t : Value → Sem α} {d : V} {v : Value} {Q : β → Store → Prop} {h₀ : Heap} (h : O1 g k rel σ t d Q) (r : Room A k) (S : SGd g σ (Hp s)) (iv : Is s.heap v d) (kp : Keeps h₀ s.heap) :
  wpAny (model g.prog g.w) A (t v) (Post g rel h₀ Q) NoE s := h.run r S iv kp fun _ _ q => q
theorem O2.go {rel : Heap → α → β → Prop} {t : Value → Value → Sem α} {d e : V} {v u : Value} {Q : β → Store → Prop} {h₀ : Heap} (h : O2 g k rel σ t d e Q) (r : Room A k) (S : SGd g σ (Hp s)) (iv : Is s.heap v d) (iu : Is s.heap u e) (kp : Keeps h₀ s.heap) :
  wpAny (model g.prog g.w) A (t v u) (Post g rel h₀ Q) NoE s := wpAny_mono (h A r s v u S iv iu) (fun a s' x => x.weak kp fun _ _ q => q) fun _ _ e => e
theorem W.mono {rel : Heap → α → β → Prop} {t : Sem α} {Q Q' : β → Store → Prop} (h : W g k rel σ t Q) (q : ∀ b σ', Q b σ' → Q' b σ') : W g k rel σ t Q' :=
 fun A r s S => wpAny_mono (h A r s S) (fun a s' x => x.weak (Keeps.refl _) q) fun _ _ e => e
theorem W.pre {rel : Heap → α → β → Prop} {t : Sem α} {Q : β → Store → Prop} {σ' : Store} (h : W g k rel σ' t Q) (q : ∀ h, SGd g σ h → SGd g σ' h) : W g k rel σ t Q :=
 fun A r s S => h A r s (q _ S)
theorem AM {rel : Heap → α → β → Prop} {Q : β → Store → Prop} {a : α} {b : β} {σ' : Store} (x : rel s.heap a b) (S : SGd g σ' (Hp s)) (q : Q b σ') : Post g rel s.heap Q a s := ⟨b, σ', x, S, Keeps.refl _, q⟩
end
section
variable {g : G} {k : Nat} {σ : Store} {env : Env}
theorem AL {i n pos} {Q : V → Store → Prop} (q : Q (.int i) σ) : WE g k σ env (.Constant (.int i) n pos) Q :=
 fun A r s S => wpAny_Constant_int (AM (s := { s with toks := s.toks + 1 }) (.int i _) S q)
theorem A9 {x : Str} {n pos} {Q : V → Store → Prop} (q : Q (.str x) σ) : WE g k σ env (.Constant (.str x) n pos) Q :=
 fun A r s S => by
  show wpAny _ _ (constValue env (.str x)) _ _ s
  intro Γ p hΓ
  exact AM (s := { s with toks := s.toks + 1 }) (.str x _) S q
theorem As {b : Bool} {n pos} {Q : V → Store → Prop} (q : Q (.bool b) σ) : WE g k σ env (.Constant (.bool b) n pos) Q :=
 fun A r s S => wpAny_pure (a := Value.bool b) (AM (.bool b) S q)
theorem WE_none {n pos} {Q : V → Store → Prop} (q : Q .none σ) : WE g k σ env (.Constant .none n pos) Q :=
 fun A r s S => wpAny_pure (a := Value.none) (AM .none S q)
theorem AP {l r op pos} {Q : V → Store → Prop} (h : WE g k σ env l (Bin1 g k env r (binaryOp op) Q)) : WE g k σ env (.BinOp l op r pos) Q :=
 fun A rm s S => wpAny_BinOp (h.run rm S fun a d₁ σ₁ s₁ i₁ S₁ k₁ q₁ => q₁.run rm S₁ fun b d₂ σ₂ s₂ i₂ S₂ k₂ q₂ => q₂.go rm S₂ (i₁.mono k₂) i₂ (k₁.trans k₂))
theorem AV {l r op pos} {Q : V → Store → Prop} (h : WE g k σ env l (Bin1 g k env r (compareOp op) Q))
  (hm : behindInMarks op r = false := by with_unfolding_all rfl) : WE g k σ env (.Compare l [op] [r] pos) Q :=
 fun A rm s S => wpAny_Compare1 (h.run rm S fun a d₁ σ₁ s₁ i₁ S₁ k₁ q₁ => q₁.run rm S₁ fun b d₂ σ₂ s₂ i₂ S₂ k₂ q₂ => q₂.go rm S₂ (i₁.mono k₂) i₂ (k₁.trans k₂)) hm
theorem AB {l r op pos} {Q : Bool → Store → Prop} (h : WE g k σ env l (Bin1 g k env r (compareOp op) (BoolK Q)))
  (hm : behindInMarks op r = false := by with_unfolding_all rfl) : WT g k σ env (.Compare l [op] [r] pos) Q :=
 fun A rm s S => wpAny_isTrue_Compare1 (h.run rm S fun a d₁ σ₁ s₁ i₁ S₁ k₁ q₁ => q₁.run rm S₁ fun b d₂ σ₂ s₂ i₂ S₂ k₂ q₂ =>
  wpAny_mono (q₂.go rm S₂ (i₁.mono k₂) i₂ (k₁.trans k₂)) (fun c s₃ ⟨d, σ₃, i₃, S₃, k₃, b, e, q⟩ => by
   subst e; cases i₃; exact wpAny_truthy_bool ⟨b, σ₃, rfl, S₃, k₃, q⟩) fun _ _ e => e) hm
theorem B7 {e : Expr} {Q : Bool → Store → Prop} (h : WE g k σ env e (TrK g k Q))
  (he : isTrue e env (eval e env) = (do let v ← eval e env; standAt e.pos; holding [v] (truthy v)) := by rfl) : WT g k σ env e Q :=
 fun A rm s S => isTrue_plain (h.run rm S fun a d₁ σ₁ s₁ i₁ S₁ k₁ q₁ => q₁.go rm S₁ i₁ k₁) he
theorem Df {x pos} {Q : Bool → Store → Prop} (h : WT g k σ env x (NotK Q)) : WT g k σ env (.UnaryOp .Not x pos) Q :=
 fun A rm s S => isTrue_not (h.run rm S fun a b σ₁ s₁ e S₁ k₁ q₁ => ⟨!b, σ₁, by rw [e]; rfl, S₁, k₁, q₁⟩)
theorem WT_and_nil {pos} {Q : Bool → Store → Prop} (q : Q true σ) : WT g k σ env (.BoolOp .And [] pos) Q := fun A rm s S => isTrue_and_nil (AM rfl S q)
theorem WT_or_nil {pos} {Q : Bool → Store → Prop} (q : Q false σ) : WT g k σ env (.BoolOp .Or [] pos) Q := fun A rm s S => isTrue_or_nil (AM rfl S q)
theorem BO {x rest pos} {Q : Bool → Store → Prop} (h : WT g k σ env x (AndK g k env rest pos Q)) : WT g k σ env (.BoolOp .And (x :: rest) pos) Q :=
 fun A rm s S => isTrue_and (h.run rm S fun a b σ₁ s₁ e S₁ k₁ q₁ => by
  cases e
  cases a
  ·unfold AndK at q₁; rw [if_neg Bool.false_ne_true] at q₁ ⊢; exact ⟨false, σ₁, rfl, S₁, k₁, q₁⟩
  ·unfold AndK at q₁; rw [if_pos rfl] at q₁ ⊢; exact q₁.go rm S₁ k₁)
theorem GS {x rest pos} {Q : Bool → Store → Prop} (h : WT g k σ env x (OrK g k env rest pos Q)) : WT g k σ env (.BoolOp .Or (x :: rest) pos) Q :=
 fun A rm s S => isTrue_or (h.run rm S fun a b σ₁ s₁ e S₁ k₁ q₁ => by
  cases e
  cases a
  ·unfold OrK at q₁; rw [if_neg Bool.false_ne_true] at q₁ ⊢; exact q₁.go rm S₁ k₁
  ·unfold OrK at q₁; rw [if_pos rfl] at q₁ ⊢; exact ⟨true, σ₁, rfl, S₁, k₁, q₁⟩)
theorem BS {op e pos} {Q : V → Store → Prop} (h : WE g k σ env e Q) : WE g k σ env (.BoolOp op [e] pos) Q := h
theorem E2 {e₁ e₂ rest pos} {Q : V → Store → Prop} (h : WE g k σ env e₁ (And1 g k env (e₂ :: rest) pos Q)) :
  WE g k σ env (.BoolOp .And (e₁ :: e₂ :: rest) pos) Q :=
 fun A rm s S => BoolOp_and (h.run rm S fun a d σ₁ s₁ i₁ S₁ k₁ q₁ => wpAny_mono (q₁ A rm s₁ a S₁ i₁) (fun c s₂ ⟨b, σ₂, e, S₂, k₂, q₂⟩ => by
  cases e
  cases c
  ·unfold And2 at q₂; rw [if_neg Bool.false_ne_true] at q₂ ⊢; exact ⟨d, σ₂, i₁.mono k₂, S₂, k₁.trans k₂, q₂⟩
  ·unfold And2 at q₂; rw [if_pos rfl] at q₂ ⊢; exact q₂.go rm S₂ (k₁.trans k₂)) fun _ _ e => e)
theorem WE_or {e₁ e₂ rest pos} {Q : V → Store → Prop} (h : WE g k σ env e₁ (Or1 g k env (e₂ :: rest) pos Q)) :
  WE g k σ env (.BoolOp .Or (e₁ :: e₂ :: rest) pos) Q :=
 fun A rm s S => BoolOp_or (h.run rm S fun a d σ₁ s₁ i₁ S₁ k₁ q₁ => wpAny_mono (q₁ A rm s₁ a S₁ i₁) (fun c s₂ ⟨b, σ₂, e, S₂, k₂, q₂⟩ => by
  cases e
  cases c
  ·unfold Or2 at q₂; rw [if_neg Bool.false_ne_true] at q₂ ⊢; exact q₂.go rm S₂ (k₁.trans k₂)
  ·unfold Or2 at q₂; rw [if_pos rfl] at q₂ ⊢; exact ⟨d, σ₂, i₁.mono k₂, S₂, k₁.trans k₂, q₂⟩) fun _ _ e => e)
theorem E3 {test body orelse pos} {Q : V → Store → Prop} (h : WT g k σ env test (IfEK g k env body orelse Q)) : WE g k σ env (.IfExp test body orelse pos) Q :=
 fun A rm s S => IfExp_ (h.run rm S fun a b σ₁ s₁ e S₁ k₁ q₁ => by
  cases e
  cases a
  ·unfold IfEK at q₁; rw [if_neg Bool.false_ne_true] at q₁ ⊢; exact q₁.go rm S₁ k₁
  ·unfold IfEK at q₁; rw [if_pos rfl] at q₁ ⊢; exact q₁.go rm S₁ k₁)
theorem AX {op x pos} {Q : V → Store → Prop} (h : WE g k σ env x (UnK g k (unaryOp op) Q)) : WE g k σ env (.UnaryOp op x pos) Q :=
 fun A rm s S => UnaryOp_ (h.run rm S fun a d σ₁ s₁ i₁ S₁ k₁ q₁ => q₁.go rm S₁ i₁ k₁)
theorem AC {value : Expr} {attr : Str} {pos : Pos} {Q : V → Store → Prop} (h : WE g k σ env value (UnK g k (fun v => getAttr v attr true) Q))
  (he : eval (.Attribute value attr pos) env = (do
   let o ← eval value env
   standAt pos.atName
   let r ← holding [o] (getAttr o attr true)
   letTemporaryGo value o r
   pure r) := by with_unfolding_all rfl) : WE g k σ env (.Attribute value attr pos) Q :=
 fun A rm s S => Attribute_any_ (h.run rm S fun a d σ₁ s₁ i₁ S₁ k₁ q₁ => q₁.go rm S₁ i₁ k₁) he
theorem AO {value slice : Expr} {pos : Pos} {Q : V → Store → Prop} (h : WE g k σ env value (Bin1 g k env slice (subscriptTail value slice) Q)) : WE g k σ env (.Subscript value slice pos) Q :=
 fun A rm s S => Subscript_ (h.run rm S fun a d₁ σ₁ s₁ i₁ S₁ k₁ q₁ => q₁.run rm S₁ fun b d₂ σ₂ s₂ i₂ S₂ k₂ q₂ => q₂.go rm S₂ (i₁.mono k₂) i₂ (k₁.trans k₂))
theorem A7 {pos} {Q : List V → Store → Prop} (q : Q [] σ) : WA g k σ env pos [] Q := fun A rm s S => spliced_nil (AM .nil S q)
theorem A5 {pos e es} {Q : List V → Store → Prop} (h : WE g k σ env e (Cons1 g k env pos es Q))
  (he : starEach (e :: es) env = (false, eval e env) :: starEach es env := by rfl) : WA g k σ env pos (e :: es) Q := by
 intro A rm s S
 rw [he]
 exact spliced_cons (h.run rm S fun a d σ₁ s₁ i₁ S₁ k₁ q₁ => W.run q₁ rm S₁ fun vs ds σ₂ s₂ i₂ S₂ k₂ q₂ => ⟨d :: ds, σ₂, .cons (i₁.mono k₂) i₂, S₂, k₁.trans k₂, q₂⟩)
theorem Ah {elts n pos} {Q : V → Store → Prop} (h : WA g k σ env pos elts (TupK Q)) : WE g k σ env (.Tuple elts n pos) Q :=
 fun A rm s S => Tuple_ (W.run h rm S fun vs ds σ₁ s₁ i₁ S₁ k₁ q₁ => wpAny_newObj_type (T := "tuple") (by
  have kp := Keeps.push s₁.heap (DP vs 0)
  exact ⟨.tup ds, σ₁, .tup (n := 0) (Heap.get?_push_size _ rfl) (i₁.mono kp), S₁.grow fun _ _ e => Heap.get?_push_of_some _ e, k₁.trans kp, q₁.2⟩)
  (by show vs.toArray.size ≤ sizeLine; rw [List.size_toArray, i₁.length]; exact q₁.1))
noncomputable abbrev Fm (R : Store) (L : Addr) (m : Loc) (τ : Store) : Store := R ++ (L, .ns m) :: τ
theorem Af {elts pos} {Q : V → Store → Prop} (h : WA g k σ env pos elts fun ds σ' => ∃ R L m τ, σ' = Fm R L m τ ∧ ds.length ≤ sizeLine ∧ ∀ a, Q (.ref a) (Fm R L m ((a, .list ds) :: τ))) : WE g k σ env (.List elts pos) Q :=
 fun A rm s S => List_ (W.run h rm S fun vs ds σ₁ s₁ i₁ S₁ k₁ ⟨R, L, m, τ, e, hz, q₁⟩ => wpAny_newObj_type (T := "list") (by
  subst e
  have kp := Keeps.push s₁.heap (Cc vs 0)
  have S₁' : SGd g ((R ++ [(L, .ns m)]) ++ τ) (Hp s₁) := by simpa using S₁
  refine ⟨.ref _, _, .ref _, ?_, k₁.trans kp, q₁ s₁.heap.objs.size⟩
  have := S₁'.alloc (a := s₁.heap.objs.size) (c := .list ds) (h' := s₁.heap.push (Cc vs 0)) (fun _ _ e => Heap.get?_push_of_some _ e) (Nat.le_refl _) ⟨vs, 0, Heap.get?_push_size _ rfl, i₁.mono kp⟩
  simpa using this)
  (by show vs.toArray.size ≤ sizeLine; rw [List.size_toArray, i₁.length]; exact hz))
end
end Mine
namespace Mine
section
variable {g : G} {k : Nat} {σ : Store} {env : Env} {R τ : Store} {L : Addr} {m : Loc}
theorem Fy (R : Store) (L : Addr) (m : Loc) (τ : Store) : (L, Cell.ns m) ∈ Fm R L m τ := List.mem_append_right _ (.head _)
theorem A4 {x : Str} {pos : Pos} {d : V} {Q : V → Store → Prop} (hv : m.lookup x = some d) (q : Q d (Fm R L m τ))
  (hk : env.scope.kind = .function := by rfl) (hl : env.kindOf x = some .local := by rfl) (hL : env.locals = L := by rfl) (hd : (x == ("__debug__" : Str)) = false := by decide) :
  WE g k (Fm R L m τ) env (.Name x pos) Q := fun A rm s S => by
 subst hL
 obtain ⟨ml, hn, hr⟩ := S.cells _ (Fy R env.locals m τ)
 obtain ⟨v, hv', iv⟩ := hr x d hv
 exact wpAny_Name (wpAny_loadName_local hk hl hn hv' (AM iv S q)) hd
theorem Al {x : Str} {pos : Pos} {d : V} {c : Addr} {Q : V → Store → Prop} (hc : env.cells.lookup x = some c) (hm : (c, Cell.cell (some d)) ∈ σ) (q : Q d σ)
  (hk : env.scope.kind = .function := by rfl) (hl : env.kindOf x = some .cell := by rfl) (hd : (x == ("__debug__" : Str)) = false := by decide) :
  WE g k σ env (.Name x pos) Q := fun A rm s S => by
 obtain ⟨o, v, ho, hdt, hr⟩ := S.cells _ hm
 obtain ⟨v', rfl, iv⟩ := hr d rfl
 exact wpAny_Name (wpAny_loadName_cell hk hl hc ⟨o, ho, hdt⟩ (AM iv S q)) hd
noncomputable def BG (K : Frag) (C : Addr) (name : Str) : Bool := plainGet K C name && (hasDictIn K C && findIn K (.ref C) name == some none)
noncomputable def BZ (K : Frag) (C : Addr) (name : Str) (f : Addr) : Bool := plainGet K C name && (findIn K (.ref C) name == some (some (.ref f)) && isFn K (.ref f)) && keepIn K (.ref f)
noncomputable def BM (K : Frag) (C : Addr) (name : Str) : Bool := findIn K (.ref C) "__setattr__" == some (some (.builtin "object.__setattr__")) && (plainOver K C && (takerIn K C name == some none && hasDictIn K C))
noncomputable def V.handed : V → Bool
 | .bi _ => false
 | _ => true
theorem HG {g : G} {σ : Store} {h : HS} {x dx C : Addr} {es : List (Str × V)} (S : SGd g σ h) (hx : (x, Cell.inst C dx) ∈ σ) (hd : (dx, Cell.nsd es) ∈ σ) :
  ∃ en n, InstAt h.toHeap x (instObj C dx) C (some (Er en n)) ∧ h.get? dx = some (Er en n) ∧ EntS g.w.params h.toHeap en es := by
 obtain ⟨en, n, ho, hr⟩ := S.cells _ hd
 exact ⟨en, n, ⟨S.cells _ hx, rfl, rfl, ho⟩, ho, hr⟩
theorem Az {x C dx : Addr} {name : Str} {es : List (Str × V)} {d : V} {Q : V → Store → Prop} (hx : (x, Cell.inst C dx) ∈ σ) (hd : (dx, Cell.nsd es) ∈ σ) (ok : BG g.K C name = true) (hl : es.lookup name = some d)
  (hh : d.handed = true) (q : Q d σ) : O1 g k Is σ (fun v => getAttr v name true) (.ref x) Q := fun A rm s v S iv => by
 obtain ⟨a1, a2⟩ := Bool.and_eq_true_iff.mp ok
 obtain ⟨a2, a3⟩ := Bool.and_eq_true_iff.mp a2
 obtain ⟨en, n, I, hlk, hr⟩ := HG S hx hd
 obtain ⟨u, hu, iu⟩ := (hr.getL name).2 d hl
 have hin : handedIn u = true := by cases iu <;> first | rfl | cases hh
 cases iv with
 | ref => exact get_value (g.X.keeps S.keep) I (plainGet_of a1).1 (findObj_own a2 (beq_iff_eq.mp a3) rfl hu) hin (AM (s := { s with toks := s.toks + 1 }) iu S q)
theorem Bp {x C dx : Addr} {name : Str} {es : List (Str × V)} {d : V} {σ' : Store} {Q : Unit → Store → Prop} (hx : (x, Cell.inst C dx) ∈ σ) (u : Upd1 dx (.nsd es) (.nsd (Es name d es)) σ σ') (ok : BM g.K C name = true)
  (q : Q () σ') (hz : es.length ≤ 900 := by simp) : O2 g k EqR σ (fun ov v => setAttr ov name v) (.ref x) d Q := fun A rm s ov v S io iv => by
 obtain ⟨a1, a2⟩ := Bool.and_eq_true_iff.mp ok
 obtain ⟨a2, a3⟩ := Bool.and_eq_true_iff.mp a2
 obtain ⟨a3, a4⟩ := Bool.and_eq_true_iff.mp a3
 obtain ⟨en, n, I, D, hr⟩ := HG S hx u.mem
 have X := g.X.keeps S.keep
 cases io with
 | ref =>
  have U := S.turn u (h' := s.heap.update dx (Obj.putName name (PyData.keyHash g.w.params name) (.str name (s.toks + 1)) v)) (fun b o hb e => (Heap.get?_update_ne _ _ _ _ hb).trans e)
   (fun kp => ⟨putL name (PyData.keyHash g.w.params name) (.str name (s.toks + 1)) v en, putN name en n, by
    have := Heap.get?_update_self (Obj.putName name (PyData.keyHash g.w.params name) (.str name (s.toks + 1)) v) D (by rw [putName_dict]; rfl)
    rw [putName_dict] at this; exact this, (hr.mono kp).put name _ (iv.mono kp)⟩)
  have D' := Heap.get?_update_self (Obj.putName name (PyData.keyHash g.w.params name) (.str name (s.toks + 1)) v) D (by rw [putName_dict]; rfl)
  rw [putName_dict] at D'
  refine set_plain X I (beq_iff_eq.mp a1) (osa_open (s := { s with toks := s.toks + 1 }) X I a2 (beq_iff_eq.mp a3) fun b => ?_)
  obtain ⟨cd, hc, hd'⟩ := any_some (p := fun cd : ClassData => cd.hasDict) a4
  have hxx := S.cells _ hx
  refine wpAny_bind (wpAny_pure (wpAny_bind (wpAny_bind (wpAny_loadPart hxx (wpAny_bind (looks_clsIn X hc _ _ _ _ (fun _ _ e => e) ?_))))))
  rw [hd']
  refine wpAny_pure (a := some dx) (wpAny_bind (wpAny_pure (wpAny_bind ?_)))
  unfold nsSet
  refine wpAny_bind (wpAny_bind (wpAny_askSetting (wpAny_pure (wpAny_bind (wpAny_mkText (wpAny_bind (wpAny_loadPart D ?_)))))))
  dsimp only
  have key : en.toArray.any (·.refKey) = false := by
   rw [← Array.any_toList]
   refine List.any_eq_false.mpr ?_
   have : ∀ {a b}, EntS g.w.params s.heap a b → ∀ e ∈ a, ¬ e.refKey = true := by
    intro a b x
    induction x with
    | nil => intro e he; cases he
    | cons y _ ih => intro e he; rcases List.mem_cons.mp he with rfl | he; exact Bool.false_ne_true; exact ih e he
   exact this hr
  have c : (!en.toArray.any (·.key.isStr name) && en.toArray.any (·.refKey)) = false := by rw [key, Bool.and_false]
  rw [aRefKeyMayBeTheName_at, c]
  refine wpAny_updatePart D ?_
  have hz' : (putL name (PyData.keyHash g.w.params name) (.str name (s.toks + 1)) v en).length ≤ 1000 := by
   have e1 := (hr.put name (s.toks + 1) iv).length
   have e2 := GR name d es
   omega
  refine wpAny_bind (wpAny_lookBehind D' (pastItsLine_dict (by rw [List.size_toArray, sizeLine_eq]; omega)) ?_)
  exact wpAny_pure ⟨(), σ', rfl, U.1, U.2, q⟩
end
end Mine
namespace Mine
inductive LocR (h : Heap) : List (Str × Value) → Loc → Prop
 | nil : LocR h [] []
 | cons {x v d l m} : Is h v d → LocR h l m → LocR h ((x, v) :: l) ((x, d) :: m)
theorem LocR.lookup {h : Heap} : ∀ {l m}, LocR h l m → ∀ x d, m.lookup x = some d → ∃ v, l.lookup x = some v ∧ Is h v d
 | _, _, .nil, x, d, e => by cases e
 | _, _, .cons (x := y) i r, x, d, e => by
  by_cases q : x = y
  ·subst q; simp at e; subst e; exact ⟨_, by simp, i⟩
  ·have q' : (x == y) = false := beq_eq_false_iff_ne.mpr q
   simp only [List.lookup, q'] at e ⊢
   exact r.lookup x d e
theorem LocR.mono {h h' : Heap} (k : Keeps h h') {l m} (x : LocR h l m) : LocR h' l m := by
 induction x with
 | nil => exact .nil
 | cons i _ ih => exact .cons (i.mono k) ih
noncomputable def Bnd (g : G) (fd : FuncData) (ds : List V) (m : Loc) : Prop :=
 ∀ s vs, IsS s.heap vs ds → g.K.In s.heap → ∃ binds, BindsTo s fd ⟨vs, []⟩ binds ∧ LocR s.heap binds.reverse m ∧ ∀ y ∈ binds, (fd.scope.names.lookup y.1 = some .local ∨ fd.scope.names.lookup y.1 = some .cell)
section
variable {g : G} {fd : FuncData} {d₁ d₂ d₃ d₄ : V} {x₁ x₂ x₃ x₄ : Str}
noncomputable def bOk (fd : FuncData) (xs : List Str) : Bool := xs.all fun x => fd.scope.names.lookup x == some .local || fd.scope.names.lookup x == some .cell
theorem Dg {fd : FuncData} {xs : List Str} (e : bOk fd xs = true) {x : Str} (hx : x ∈ xs) : fd.scope.names.lookup x = some .local ∨ fd.scope.names.lookup x = some .cell := by
 have := List.all_eq_true.mp e x hx
 rcases Bool.or_eq_true_iff.mp this with q | q
 ·exact .inl (beq_iff_eq.mp q)
 ·exact .inr (beq_iff_eq.mp q)
theorem bnd0 (h : bindArgs fd ⟨[], []⟩ = pure [] := by rfl) : Bnd g fd [] [] := fun s vs i _ => by
 cases i; exact ⟨[], .of_eq h, .nil, fun _ h => (nomatch h)⟩
theorem Fz (h : ∀ v₁, bindArgs fd ⟨[v₁], []⟩ = pure [(x₁, v₁)]) (ok : bOk fd [x₁] = true := by rfl) : Bnd g fd [d₁] [(x₁, d₁)] := fun s vs i _ => by
 cases i with | cons i₁ i => cases i; exact ⟨_, .of_eq (h _), .cons i₁ .nil, fun y hy => Dg ok (by simp at hy; simp [hy])⟩
theorem DB (h : ∀ v₁ v₂, bindArgs fd ⟨[v₁, v₂], []⟩ = pure [(x₁, v₁), (x₂, v₂)]) (ok : bOk fd [x₁, x₂] = true := by rfl) : Bnd g fd [d₁, d₂] [(x₂, d₂), (x₁, d₁)] := fun s vs i _ => by
 cases i with | cons i₁ i => cases i with | cons i₂ i => cases i; exact ⟨_, .of_eq (h _ _), .cons i₂ (.cons i₁ .nil), fun y hy => Dg ok (by simp at hy; rcases hy with rfl | rfl <;> simp)⟩
theorem bnd3 (h : ∀ v₁ v₂ v₃, bindArgs fd ⟨[v₁, v₂, v₃], []⟩ = pure [(x₁, v₁), (x₂, v₂), (x₃, v₃)]) (ok : bOk fd [x₁, x₂, x₃] = true := by rfl) : Bnd g fd [d₁, d₂, d₃] [(x₃, d₃), (x₂, d₂), (x₁, d₁)] := fun s vs i _ => by
 cases i with | cons i₁ i => cases i with | cons i₂ i => cases i with | cons i₃ i => cases i; exact ⟨_, .of_eq (h _ _ _), .cons i₃ (.cons i₂ (.cons i₁ .nil)), fun y hy => Dg ok (by simp at hy; rcases hy with rfl | rfl | rfl <;> simp)⟩
theorem bnd4 (h : ∀ v₁ v₂ v₃ v₄, bindArgs fd ⟨[v₁, v₂, v₃, v₄], []⟩ = pure [(x₁, v₁), (x₂, v₂), (x₃, v₃), (x₄, v₄)]) (ok : bOk fd [x₁, x₂, x₃, x₄] = true := by rfl) : Bnd g fd [d₁, d₂, d₃, d₄] [(x₄, d₄), (x₃, d₃), (x₂, d₂), (x₁, d₁)] := fun s vs i _ => by
 cases i with | cons i₁ i => cases i with | cons i₂ i => cases i with | cons i₃ i => cases i with | cons i₄ i => cases i; exact ⟨_, .of_eq (h _ _ _ _), .cons i₄ (.cons i₃ (.cons i₂ (.cons i₁ .nil))), fun y hy => Dg ok (by simp at hy; rcases hy with rfl | rfl | rfl | rfl <;> simp)⟩
end
noncomputable def RPost (g : G) (h : Heap) (Q : V → Store → Prop) : Result → Shared → Prop := fun r s' => match r with | .ok (.ret v) => Post g Is h Q v s' | .ok _ => False | .error e => NoE e s'
noncomputable def Fn (g : G) (k : Nat) (f : Addr) (ds : List V) (σ : Store) (Q : V → Store → Prop) : Prop :=
 ∀ A, Room A k → ∀ s vs, SGd g σ (Hp s) → IsS s.heap vs ds → codeAny (model g.prog g.w) A (.call (.ref f) ⟨vs, []⟩) (RPost g s.heap Q) s
theorem RPost.weak {g : G} {h h' : Heap} {Q Q' : V → Store → Prop} (kp : Keeps h h') (q : ∀ b σ', Q b σ' → Q' b σ') : ∀ r s', RPost g h' Q r s' → RPost g h Q' r s' := fun r s' x => by
 rcases r with e | (_ | _ | _ | v) <;> first | exact x | exact Post.weak kp q x
theorem Fn.call {g : G} {k : Nat} {f : Addr} {ds : List V} {σ : Store} {Q : V → Store → Prop} {A : Around} {s : Shared} {vs : List Value} {h₀ : Heap} (h : Fn g k f ds σ Q) (r : Room A k) (S : SGd g σ (Hp s)) (i : IsS s.heap vs ds) (kp : Keeps h₀ s.heap) :
  wpAny (model g.prog g.w) A (PySem.call (.ref f) vs []) (Post g Is h₀ Q) NoE s := wpAny_call (codeAny_mono (h A r s vs S i) fun r s' x => RPost.weak kp (fun _ _ q => q) r s' x)
theorem Fn.pre {g : G} {k : Nat} {f : Addr} {ds : List V} {σ σ' : Store} {Q : V → Store → Prop} (h : Fn g k f ds σ' Q) (q : ∀ h, SGd g σ h → SGd g σ' h) : Fn g k f ds σ Q :=
 fun A r s vs S i => h A r s vs (q _ S) i
noncomputable def BC (Q : V → Store → Prop) (fl : Fl) (σ' : Store) : Prop := match fl with
 | .next => ∃ (σ₁ σ'' : Store), σ₁.Sublist σ' ∧ σ₁.Perm σ'' ∧ Q .none σ''
 | .ret d => ∃ (σ₁ σ'' : Store), σ₁.Sublist σ' ∧ σ₁.Perm σ'' ∧ Q d σ''
 | _ => False
section
variable {g : G} {k : Nat}
theorem is_none' {h : Heap} {v : Value} (x : Is h v .none) : v = .none := by cases x; rfl
theorem AN {f : Addr} {ds : List V} {R τ : Store} {Q : V → Store → Prop} {name qual : Str} {params : Arguments} {body : List Stmt} {scope : Scope} {dV kV doc pm cdv ct oc : Value} {an od : Option Addr} {osl : Array (Option Value)} (m : Loc)
  (ho : g.K.lookup f = some ⟨oc, od, .func (fnOf name qual params body scope dV kV doc pm an cdv ct), osl⟩) (hcd : codeIn g.K cdv qual = true)
  (hb : Bnd g (fnOf name qual params body scope dV kV doc pm an cdv ct) ds m)
  (h : ∀ L, WS g k (Fm R L m τ) (envOf qual scope L f cdv) body (BC Q))
  (hcell : ∀ x ∈ scope.names, x.2 ≠ .cell := by decide) (hco : scope.isCoroutine = false := by rfl) (hgen : scope.isGenerator = false := by rfl) (hk : scope.kind = .function := by rfl) :
  Fn g (k + 1) f ds (R ++ τ) Q := fun A r s vs S i => by
 have X := g.X.keeps S.keep
 obtain ⟨binds, hbd, hl, hloc⟩ := hb s vs i X
 refine (codeAny_call_def (fd := fnOf name qual params body scope dV kV doc pm an cdv ct) (body := body) (binds := binds) r.room (X _ _ ho) rfl (g.T.nolimit.keeps S.keep) (codeRec_of X hcd) rfl hbd hcell (fun y hy => ?_) (fun h₁ hns hk₁ => ?_) hco hgen hk)
 ·rcases hloc y hy with q | q
  ·exact q
  ·exact absurd rfl (hcell (y.1, .cell) (mem_of_lookup q))
 have kp : Keeps s.heap h₁ := Keeps.of_all hk₁
 have S₁ : SGd g (Fm R s.heap.objs.size m τ) ((Hp s).at h₁) := S.alloc hk₁ (Nat.le_refl _) ⟨_, hns, fun x d e => (hl.mono kp).lookup x d e⟩
 refine wpAny_mono (h s.heap.objs.size _ (r.deeper _) { s with heap := h₁, toks := s.toks + binds.length } S₁) (fun fl s' ⟨d, σ', x, S', kp', q⟩ => ?_) fun _ _ e => e.elim
 cases x with
 | next => obtain ⟨σ₁, σ'', hs, hp, q⟩ := q; exact ⟨.none, σ'', .none, (S'.sublist hs).perm hp, kp.trans kp', q⟩
 | ret x => obtain ⟨σ₁, σ'', hs, hp, q⟩ := q; exact ⟨_, σ'', x, (S'.sublist hs).perm hp, kp.trans kp', q⟩
 | brk => exact q.elim
 | cont => exact q.elim
noncomputable abbrev FnK (g : G) (k : Nat) (f : Addr) (Q : V → Store → Prop) : List V → Store → Prop := fun ds σ' => Fn g k f ds σ' Q
noncomputable abbrev FnK1 (g : G) (k : Nat) (f x : Addr) (Q : V → Store → Prop) : List V → Store → Prop := fun ds σ' => Fn g k f (.ref x :: ds) σ' Q
theorem AJ {σ : Store} {env : Env} {x : Str} {p pos : Pos} {a : Expr} {args : List Expr} {f : Addr} {Q : V → Store → Prop} (e : nsIn g.K mainGlobals x = some (some (.ref f))) (hkp : keepIn g.K (.ref f) = true)
  (h : WA g k σ env pos (a :: args) (FnK g k f Q))
  (he : starEach (a :: args) env = (false, eval a env) :: starEach args env := by rfl) (hplain : (backTo pos (starEach args env)).any (·.1) = false := by rfl)
  (hk : env.scope.kind = .function := by rfl) (hx : env.kindOf x = some .globalImplicit := by rfl) (hg : env.globals = mainGlobals := by rfl) (hd : (x == ("__debug__" : Str)) = false := by decide)
  (hc : eval (.Call (.Name x p) (a :: args) [] pos) env = (do callWith pos (← eval (.Name x p) env) [] (backTo pos (starEach (a :: args) env)) (backToKw pos (keywordEach [] env))) := by rfl) :
  WE g k σ env (.Call (.Name x p) (a :: args) [] pos) Q := fun A r s S =>
 Call_ (Name_function_global hk hx (loadGlobal_global (env := env) (hg ▸ g.T.g.keeps S.keep) (mg_of g.X g.T.g e)
  (callWith_K (g.X.keeps S.keep) hkp (W.run h r S fun vs ds σ' s' i S' kp q => ⟨g.X.keeps S'.keep, q.call r S' i kp⟩) he hplain)) hd) hc
theorem ET {σ : Store} {env : Env} {x : Str} {p pos : Pos} {f : Addr} {Q : V → Store → Prop} (e : nsIn g.K mainGlobals x = some (some (.ref f))) (hkp : keepIn g.K (.ref f) = true)
  (h : Fn g k f [] σ Q)
  (hk : env.scope.kind = .function := by rfl) (hx : env.kindOf x = some .globalImplicit := by rfl) (hg : env.globals = mainGlobals := by rfl) (hd : (x == ("__debug__" : Str)) = false := by decide)
  (hc : eval (.Call (.Name x p) [] [] pos) env = (do callWith pos (← eval (.Name x p) env) [] (backTo pos (starEach [] env)) (backToKw pos (keywordEach [] env))) := by rfl) :
  WE g k σ env (.Call (.Name x p) [] [] pos) Q := fun A r s S =>
 Call_ (Name_function_global hk hx (loadGlobal_global (env := env) (hg ▸ g.T.g.keeps S.keep) (mg_of g.X g.T.g e)
  (callWith_K0 (g.X.keeps S.keep) hkp (h.call r S .nil (Keeps.refl _)))) hd) hc
noncomputable def MOn (g : G) (k : Nat) (σ : Store) (env : Env) (pos : Pos) (name : Str) (d : V) (args : List Expr) (Q : V → Store → Prop) : Prop :=
 ∀ A, Room A k → ∀ s v pl h₀, SGd g σ (Hp s) → Is s.heap v d → Keeps h₀ s.heap →
  wpAny (model g.prog g.w) A (getMethod v name pl) (fun fx s₂ => wpAny (model g.prog g.w) A (callWith pos fx.1 fx.2 (backTo pos (starEach args env)) []) (Post g Is h₀ Q) NoE s₂) NoE s
noncomputable abbrev MethK (g : G) (k : Nat) (env : Env) (pos : Pos) (name : Str) (args : List Expr) (Q : V → Store → Prop) : V → Store → Prop := fun d σ' => MOn g k σ' env pos name d args Q
theorem AH {σ : Store} {env : Env} {o : Expr} {name : Str} {apos pos : Pos} {args : List Expr} {pl : Sem Bool} {Q : V → Store → Prop} (h : WE g k σ env o (MethK g k env pos name args Q))
  (he : eval (.Call (.Attribute o name apos) args [] pos) env = (do
   let ov ← eval o env
   standAt apos.atName
   let (f, first) ← holding [ov] (getMethod ov name pl)
   callWith pos f first (backTo pos (starEach args env)) []) := by rfl) : WE g k σ env (.Call (.Attribute o name apos) args [] pos) Q := fun A r s S =>
 MethodCall_ (h.run r S fun v d σ' s' i S' kp q => q A r s' v pl s.heap S' i kp) he
theorem Ag {σ : Store} {env : Env} {name : Str} {pos : Pos} {a : Expr} {args : List Expr} {x C dx f : Addr} {es : List (Str × V)} {Q : V → Store → Prop} (hx : (x, Cell.inst C dx) ∈ σ) (hd : (dx, Cell.nsd es) ∈ σ) (ok : BZ g.K C name f = true)
  (hl : es.lookup name = none) (h : WA g k σ env pos (a :: args) (FnK1 g k f x Q))
  (he : starEach (a :: args) env = (false, eval a env) :: starEach args env := by rfl) (hplain : (backTo pos (starEach args env)).any (·.1) = false := by rfl) :
  MOn g k σ env pos name (.ref x) (a :: args) Q := fun A r s v pl h₀ S iv kp => by
 obtain ⟨a1, a4⟩ := Bool.and_eq_true_iff.mp ok
 obtain ⟨a1, a2⟩ := Bool.and_eq_true_iff.mp a1
 obtain ⟨a2, a3⟩ := Bool.and_eq_true_iff.mp a2
 obtain ⟨en, n, I, D, hr⟩ := HG S hx hd
 have X := g.X.keeps S.keep
 cases iv with
 | ref =>
  refine method_fn X I (plainGet_of a1).1 (plainGet_of a1).2 (beq_iff_eq.mp a2) (beq_iff_eq.mp a3) (by show (lookIn name (Er en n)).map _ = _; rw [show lookIn name (Er en n) = getL name en from rfl, (hr.getL name).1 hl]; rfl) ?_
  exact callWith_K X a4 (W.run h r S fun vs ds σ' s' i S' kp' q => ⟨g.X.keeps S'.keep, q.call r S' (.cons (.ref x) i) (kp.trans kp')⟩) he hplain
theorem BJ {σ : Store} {env : Env} {name : Str} {pos : Pos} {x C dx f : Addr} {es : List (Str × V)} {Q : V → Store → Prop} (hx : (x, Cell.inst C dx) ∈ σ) (hd : (dx, Cell.nsd es) ∈ σ) (ok : BZ g.K C name f = true)
  (hl : es.lookup name = none) (h : Fn g k f [.ref x] σ Q) : MOn g k σ env pos name (.ref x) [] Q := fun A r s v pl h₀ S iv kp => by
 obtain ⟨a1, a4⟩ := Bool.and_eq_true_iff.mp ok
 obtain ⟨a1, a2⟩ := Bool.and_eq_true_iff.mp a1
 obtain ⟨a2, a3⟩ := Bool.and_eq_true_iff.mp a2
 obtain ⟨en, n, I, D, hr⟩ := HG S hx hd
 have X := g.X.keeps S.keep
 cases iv with
 | ref =>
  refine method_fn X I (plainGet_of a1).1 (plainGet_of a1).2 (beq_iff_eq.mp a2) (beq_iff_eq.mp a3) (by show (lookIn name (Er en n)).map _ = _; rw [show lookIn name (Er en n) = getL name en from rfl, (hr.getL name).1 hl]; rfl) ?_
  exact callWith_K0 X a4 (h.call r S (.cons (.ref x) .nil) kp)
theorem Room.make {A : Around} {k : Nat} (r : Room A (k + 1)) (C : Addr) (vs : List Value) : Room (A.under (.builtin "type.__call__" ⟨.ref C :: vs, []⟩)) k :=
 ⟨r.handled, by have := r.depth; rw [depth_under_make]; omega, by
  have := r.units
  have : (A.under (.builtin "type.__call__" ⟨.ref C :: vs, []⟩)).units = A.units + (Code.builtin "type.__call__" ⟨.ref C :: vs, []⟩).cUnits := rfl
  have h3 : (Code.builtin "type.__call__" ⟨.ref C :: vs, []⟩).cUnits ≤ 3 := by show 1 ≤ 3; decide
  omega⟩
noncomputable def HZ (K : Frag) (C fI : Addr) : Bool := makesIn K C && (findIn K (.ref C) "__init__" == some (some (.ref fI)) && isFn K (.ref fI))
theorem HH {C fI : Addr} {ds : List V} {R τ : Store} {L : Addr} {m : Loc} {Q : V → Store → Prop} (ok : HZ g.K C fI = true)
  (h : ∀ x dx, Fn g k fI (.ref x :: ds) (Fm R L m ((x, .inst C dx) :: (dx, .nsd []) :: τ)) fun d σ' => d = .none ∧ Q (.ref x) σ') : Fn g (k + 1) C ds (Fm R L m τ) Q := fun A r s vs S i => by
 obtain ⟨a1, a2⟩ := Bool.and_eq_true_iff.mp ok
 obtain ⟨a2, a3⟩ := Bool.and_eq_true_iff.mp a2
 have X := g.X.keeps S.keep
 obtain ⟨hh, gg, d, t, os⟩ := s
 refine make_core (makes_of X a1) (looks_findIn X (beq_iff_eq.mp a2)) (fun self => bind_fn X self (beq_iff_eq.mp a3)) (.inl rfl) ?_
 have k1 : ∀ b o, hh.get? b = some o → (hh.push emptyDict).get? b = some o := fun b o e => Heap.get?_push_of_some _ e
 have S1 : SGd g (Fm R L m ((hh.objs.size, .nsd []) :: τ)) ⟨hh.push emptyDict, os, gg⟩ := by
  have S' : SGd g ((R ++ [(L, .ns m)]) ++ τ) ⟨hh, os, gg⟩ := by simpa using S
  have := S'.alloc (a := hh.objs.size) (c := .nsd []) (h' := hh.push emptyDict) k1 (Nat.le_refl _) ⟨[], 0, Heap.get?_push_size _ rfl, .nil⟩
  simpa using this
 have k2 : ∀ b o, (hh.push emptyDict).get? b = some o → ((hh.push emptyDict).push (instObj C hh.objs.size)).get? b = some o := fun b o e => Heap.get?_push_of_some _ e
 have sz : (hh.push emptyDict).objs.size = hh.objs.size + 1 := Heap.size_push ..
 have S2 : SGd g (Fm R L m ((hh.objs.size + 1, .inst C hh.objs.size) :: (hh.objs.size, .nsd []) :: τ)) ⟨(hh.push emptyDict).push (instObj C hh.objs.size), os, gg⟩ := by
  have S' : SGd g ((R ++ [(L, .ns m)]) ++ ((hh.objs.size, .nsd []) :: τ)) ⟨hh.push emptyDict, os, gg⟩ := by simpa using S1
  have := S'.alloc (a := (hh.push emptyDict).objs.size) (c := .inst C hh.objs.size) (h' := (hh.push emptyDict).push (instObj C hh.objs.size)) k2 (Nat.le_refl _) (Heap.get?_push_size _ rfl)
  rw [sz] at this
  simpa using this
 have kp : Keeps hh ((hh.push emptyDict).push (instObj C hh.objs.size)) := Keeps.of_all fun b o e => k2 b o (k1 b o e)
 refine codeAny_mono (h _ _ _ (r.make C vs) ⟨(hh.push emptyDict).push (instObj C hh.objs.size), gg, d, t, os⟩ _ S2 (.cons (.ref _) (i.mono kp))) fun r s' x => ?_
 rcases r with e | (v | _ | _ | v) <;> first | exact x.elim | skip
 obtain ⟨d, σ', iv, S', kp', e, q⟩ := x
 subst e
 exact ⟨is_none' iv, .ref _, σ', .ref _, S', kp.trans kp', q⟩
end
end Mine
namespace Mine
section
variable {g : G} {k : Nat} {σ : Store} {env : Env} {R τ : Store} {L : Addr} {m : Loc}
theorem SGd.setNs {h : HS} {h' : Heap} {x : Str} {v : Value} {d : V} {ml : Str → Option Value} (S : SGd g (Fm R L m τ) h) (hml : ∀ y e, m.lookup y = some e → ∃ u, ml y = some u ∧ Is h.toHeap u e) (hn : h'.Ns L fun y => if y = x then some v else ml y)
  (hs : Heap.SameBut L h.toHeap h') (iv : Is h.toHeap v d) : SGd g (Fm R L ((x, d) :: m) τ) (h.at h') ∧ Keeps h.toHeap h' := by
 refine S.turn (a := L) (c := .ns m) (c' := .ns ((x, d) :: m)) (Upd1.append_left .head R) (fun b o hb e => hs.extBut b o hb e) fun kp => ⟨_, hn, fun y e he => ?_⟩
 by_cases q : y = x
 ·subst q; simp at he; subst he; exact ⟨v, by simp, iv.mono kp⟩
 ·have q' : (y == x) = false := beq_eq_false_iff_ne.mpr q
  simp only [List.lookup, q'] at he
  obtain ⟨u, hu, iu⟩ := hml y e he
  exact ⟨u, by simp [q, hu], iu.mono kp⟩
theorem AF {x : Str} {d : V} {Q : Unit → Store → Prop} (q : Q () (Fm R L ((x, d) :: m) τ))
  (hk : env.scope.kind = .function := by rfl) (hl : env.kindOf x = some .local := by rfl) (hL : env.locals = L := by rfl) : O1 g k EqR (Fm R L m τ) (fun v => storeName env x v) d Q := fun A r s v S iv => by
 subst hL
 obtain ⟨ml, hn, hr⟩ := S.cells _ (Fy R env.locals m τ)
 refine wpAny_storeName_local hl hn (fun h' hn' hs => ?_) (by rw [hk]; rfl)
 obtain ⟨S', kp⟩ := S.setNs hr hn' hs iv
 exact ⟨(), _, rfl, S', kp, q⟩
theorem FA {x : Str} {d : V} {o : Option V} {c : Addr} {σ' : Store} {Q : Unit → Store → Prop} (hc : env.cells.lookup x = some c) (u : Upd1 c (.cell o) (.cell (some d)) σ σ') (q : Q () σ')
  (hk : env.scope.kind = .function := by rfl) (hl : env.kindOf x = some .cell := by rfl) : O1 g k EqR σ (fun v => storeName env x v) d Q := fun A r s v S iv => by
 obtain ⟨ob, v₀, ho, hd, _⟩ := S.cells _ u.mem
 refine wpAny_storeName_cell hk hl hc ⟨ob, ho, hd⟩ fun h' hv hs => ?_
 obtain ⟨S', kp⟩ := S.turn u (fun b o hb e => hs.extBut b o hb e) fun kp => by
  obtain ⟨o', ho', hd'⟩ := hv
  exact ⟨o', some v, ho', hd', fun d' e => by cases e; exact ⟨v, rfl, iv.mono kp⟩⟩
 exact ⟨(), _, rfl, S', kp, q⟩
theorem AT {x : Str} {pos : Pos} {d : V} {Q : Unit → Store → Prop} (h : O1 g k EqR σ (fun v => storeName env x v) d Q) : O1 g k EqR σ (assign (.Name x pos) env) d Q :=
 fun A r s v S iv => wpAny_assign_Name (h A r s v S iv)
theorem A8 {Q : Fl → Store → Prop} (q : Q .next σ) : WS g k σ env [] Q := fun A r s S => wpAny_execs_nil (AM .next S q)
theorem A6 {st : Stmt} {rest : List Stmt} {Q : Fl → Store → Prop} (h : WX g k σ env st (SeqK g k env rest Q)) : WS g k σ env (st :: rest) Q := fun A r s S =>
 wpAny_execs_cons (W.run h r S fun f fl σ' s' x S' kp q => by
  cases x with
  | next => exact W.go q r S' kp
  | brk => exact ⟨_, σ', .brk, S', kp, q⟩
  | cont => exact ⟨_, σ', .cont, S', kp, q⟩
  | ret i => exact ⟨_, σ', .ret i, S', kp, q⟩)
noncomputable def V.drops : V → Bool
 | .ref _ => false
 | .tup _ => false
 | _ => true
noncomputable abbrev ExprK (Q : Fl → Store → Prop) : V → Store → Prop := fun d σ' => d.drops = true ∧ Q .next σ'
theorem AI {e pos} {Q : Fl → Store → Prop} (h : WE g k σ env e (ExprK Q))
  (hi : interactive env = false := by rfl) (hs : swapsWith e none pos.line env = pure false := by rfl) : WX g k σ env (.Expr e pos) Q := fun A r s S =>
 wpAny_Expr (W.run h r S fun v d σ' s' i S' kp q => by
  cases i <;> first | exact ⟨_, σ', .next, S', kp, q.2⟩ | exact absurd q.1 (by decide) | (exact absurd q.1 (by simp [V.drops]))) hi hs
theorem AD {x : Str} {pos' value pos} {Q : Fl → Store → Prop} (h : WE g k σ env value (AsgK g k env x Q))
  (hs : swapsWith value (some (.Name x pos')) pos.line env = pure false := by rfl) : WX g k σ env (.Assign [.Name x pos'] value pos) Q := fun A r s S =>
 wpAny_Assign_Name (W.run h r S fun v d σ' s' i S' kp q => wpAny_mono (q A r s' v S' i) (fun _ s₂ ⟨_, σ₂, _, S₂, k₂, q₂⟩ => ⟨.next, σ₂, .next, S₂, kp.trans k₂, q₂⟩) fun _ _ e => e) hs
theorem HI {x : Str} {pos' op value pos} {d₀ : V} {Q : Fl → Store → Prop} (hv : m.lookup x = some d₀) (h : WE g k (Fm R L m τ) env value (AugK g k env op x d₀ Q))
  (hk : env.scope.kind = .function := by rfl) (hl : env.kindOf x = some .local := by rfl) (hL : env.locals = L := by rfl) : WX g k (Fm R L m τ) env (.AugAssign (.Name x pos') op value pos) Q := fun A r s S => by
 subst hL
 obtain ⟨ml, hn, hr⟩ := S.cells _ (Fy R env.locals m τ)
 obtain ⟨v₀, hv', iv⟩ := hr x d₀ hv
 refine wpAny_AugAssign_Name (wpAny_loadName_local hk hl hn hv' (W.run h r S fun v d σ₁ s₁ i₁ S₁ k₁ q₁ => ?_))
 refine wpAny_mono (q₁ A r s₁ v₀ v S₁ (iv.mono k₁) i₁) (fun u s₂ ⟨e, σ₂, i₂, S₂, k₂, q₂⟩ => ?_) fun _ _ e => e
 exact wpAny_mono (q₂ A r s₂ u S₂ i₂) (fun _ s₃ ⟨_, σ₃, _, S₃, k₃, q₃⟩ => ⟨.next, σ₃, .next, S₃, k₁.trans (k₂.trans k₃), q₃⟩) fun _ _ e => e
theorem AK {o attr pos' value pos} {Q : Fl → Store → Prop} (h : WE g k σ env value (AttK1 g k env o attr Q))
  (hs : swapsWith value (some (.Attribute o attr pos')) pos.line env = pure false := by rfl) : WX g k σ env (.Assign [.Attribute o attr pos'] value pos) Q := fun A r s S =>
 plainObj_wpAny_Assign_Attribute (W.run h r S fun v d σ₁ s₁ i₁ S₁ k₁ q₁ => W.run q₁ r S₁ fun u e σ₂ s₂ i₂ S₂ k₂ q₂ =>
  wpAny_mono (q₂ A r s₂ u v S₂ i₂ (i₁.mono k₂)) (fun _ s₃ ⟨_, σ₃, _, S₃, k₃, q₃⟩ => ⟨.next, σ₃, .next, S₃, k₁.trans (k₂.trans k₃), q₃⟩) fun _ _ e => e) hs
theorem BF {o i pos' value pos} {Q : Fl → Store → Prop} (h : WE g k σ env value (SubK1 g k env o i Q))
  (hs : swapsWith value (some (.Subscript o i pos')) pos.line env = pure false := by rfl) : WX g k σ env (.Assign [.Subscript o i pos'] value pos) Q := fun A r s S =>
 wpAny_Assign_Subscript (W.run h r S fun v d σ₁ s₁ i₁ S₁ k₁ q₁ => W.run q₁ r S₁ fun u e σ₂ s₂ i₂ S₂ k₂ q₂ => W.run q₂ r S₂ fun x f σ₃ s₃ i₃ S₃ k₃ q₃ =>
  wpAny_mono (q₃ A r s₃ u x v S₃ (i₂.mono k₃) i₃ (i₁.mono (k₂.trans k₃))) (fun _ s₄ ⟨_, σ₄, _, S₄, k₄, q₄⟩ => ⟨.next, σ₄, .next, S₄, k₁.trans (k₂.trans (k₃.trans k₄)), q₄⟩) fun _ _ e => e) hs
theorem AY {test body orelse pos} {Q : Fl → Store → Prop} (h : WT g k σ env test (IfK g k env body orelse Q)) : WX g k σ env (.If test body orelse pos) Q := fun A r s S =>
 wpAny_If (W.run h r S fun b b' σ' s' e S' kp q => by
  cases e
  cases b
  ·unfold IfK at q; rw [if_neg Bool.false_ne_true] at q ⊢; exact W.go q r S' kp
  ·unfold IfK at q; rw [if_pos rfl] at q ⊢; exact W.go q r S' kp)
theorem AG {e pos} {Q : Fl → Store → Prop} (h : WE g k σ env e (RetK Q)) : WX g k σ env (.Return (some e) pos) Q := fun A r s S =>
 wpAny_Return_some (W.run h r S fun v d σ' s' i S' kp q => ⟨.ret d, σ', .ret i, S', kp, q⟩)
theorem CP {pos} {Q : Fl → Store → Prop} (q : Q (.ret .none) σ) : WX g k σ env (.Return none pos) Q := fun A r s S => wpAny_Return_none (AM (.ret .none) S q)
theorem WX_Continue {pos} {Q : Fl → Store → Prop} (q : Q .cont σ) : WX g k σ env (.Continue pos) Q := fun A r s S => by
 show wpAny _ _ (do standAt pos; pure Flow.cont) _ _ s
 exact wpAny_bind (wpAny_standAt (wpAny_pure (AM .cont S q)))
noncomputable def AsS (g : G) (k : Nat) : List (Value → Sem Unit) → List V → Store → (Store → Prop) → Prop
 | [], [], σ, Q => Q σ
 | t :: ts, d :: ds, σ, Q => O1 g k EqR σ t d (fun _ σ' => AsS g k ts ds σ' Q)
 | _, _, _, _ => False
theorem AsS.run {ts : List (Value → Sem Unit)} {ds : List V} {Q : Store → Prop} {A : Around} (r : Room A k) : ∀ {σ : Store} {vs : List Value} {s : Shared} {h₀ : Heap}, AsS g k ts ds σ Q → SGd g σ (Hp s) → IsS s.heap vs ds → Keeps h₀ s.heap →
  wpAny (model g.prog g.w) A (assignInOrder ts vs) (Post g EqR h₀ fun (_ : Unit) σ' => Q σ') NoE s := by
 induction ts generalizing ds with
 | nil =>
  intro σ vs s h₀ x S i kp
  cases ds with
  | nil => cases i; exact wpAny_pure ⟨(), σ, rfl, S, kp, x⟩
  | cons _ _ => exact x.elim
 | cons t ts ih =>
  intro σ vs s h₀ x S i kp
  cases ds with
  | nil => exact x.elim
  | cons d ds =>
   cases i with
   | cons i₁ i => exact assignInOrder_cons (wpAny_mono (x A r s _ S i₁) (fun _ s' ⟨_, σ', _, S', k', q⟩ => ih q S' (i.mono k') (kp.trans k')) fun _ _ e => e)
theorem BP {h : Heap} {v : Value} {ds : List V} (i : Is h v (.tup ds)) : ∃ a vs, v = .ref a ∧ IsTup h a vs.toArray ∧ IsS h vs ds := by
 cases i with
 | @tup a vs n _ e x => exact ⟨a, vs, rfl, ⟨_, e, rfl, ⟨n, rfl⟩⟩, x⟩
theorem C1 {elts n pos} {ds : List V} {Q : Unit → Store → Prop} (hn : (assignEach elts env).length = ds.length) (h : AsS g k ((assignEach elts env).map (·.2)) ds σ (UnitK Q))
  (hstar : (assignEach elts env).findIdx? (·.1) = none := by rfl) : O1 g k EqR σ (assign (.Tuple elts n pos) env) (.tup ds) Q := fun A r s v S iv => by
 obtain ⟨a, vs, rfl, ht, i⟩ := BP iv
 refine assign_Tuple_tuple r.handled ht (by rw [hn, List.size_toArray, i.length]) hstar fun h' he => ?_
 have gr : ∀ b o, s.heap.get? b = some o → h'.get? b = some o := fun b o e => he b o (Nat.ne_of_lt (Heap.lt_size e)) e
 exact h.run r (s := { s with heap := h' }) (S.grow gr) (i.mono (Keeps.of_all gr)) (Keeps.of_all gr)
theorem Ha {elts n tpos value pos} {Q : Fl → Store → Prop} (h : WE g k σ env value (AsTK g k env (.Tuple elts n tpos) Q))
  (hs : swapsWithSole [.Tuple elts n tpos] value pos.line env = pure false := by rfl) (hw : swappedStores [.Tuple elts n tpos] value env = pure none := by rfl) : WX g k σ env (.Assign [.Tuple elts n tpos] value pos) Q := fun A r s S =>
 Assign_Tuple (W.run h r S fun v d σ' s' i S' kp q => wpAny_mono (q A r s' v S' i) (fun _ s₂ ⟨_, σ₂, _, S₂, k₂, q₂⟩ => ⟨.next, σ₂, .next, S₂, kp.trans k₂, q₂⟩) fun _ _ e => e) hs hw
theorem WX_While {test body pos} {Q : Fl → Store → Prop} (Inv : Nat → Store → Prop) (n : Nat) (h0 : Inv n σ)
  (turn : ∀ n σ, Inv n σ → WT g k σ env test fun b σ' => if b = true then WS g k σ' env body (fun fl σ'' => match fl with
    | .next | .cont => ∃ n', n' < n ∧ Inv n' σ''
    | .brk => Q .next σ''
    | .ret d => Q (.ret d) σ'') else Q .next σ') : WX g k σ env (.While test body [] pos) Q := fun A r s S => by
 refine wpAny_While (codeAny_mono (R := fun r s' => match r with | .ok f => Post g IsFl s.heap Q f s' | .error e => NoE e s') ?_ fun r s' x => by cases r with | ok f => exact x | error e => exact x.elim)
 refine codeAny_whileLoop (fun n s' => ∃ σ', Inv n σ' ∧ SGd g σ' (Hp s') ∧ Keeps s.heap s'.heap) (fun n s₁ ⟨σ₁, hI, S₁, k₁⟩ => ?_) n ⟨σ, h0, S, Keeps.refl _⟩
 refine wpAny_mono (turn n σ₁ hI A r s₁ S₁) (fun b s₂ ⟨b', σ₂, e, S₂, k₂, q⟩ => ?_) fun _ _ e => e.elim
 cases e
 cases b
 ·rw [if_neg Bool.false_ne_true] at q ⊢
  exact wpAny_execs_nil ⟨.next, σ₂, .next, S₂, k₁.trans k₂, q⟩
 ·rw [if_pos rfl] at q ⊢
  refine wpAny_mono (q A r s₂ S₂) (fun f s₃ ⟨fl, σ₃, x, S₃, k₃, q₃⟩ => ?_) fun _ _ e => e.elim
  cases x with
  | next => obtain ⟨n', hn, hI'⟩ := q₃; exact ⟨n', hn, σ₃, hI', S₃, k₁.trans (k₂.trans k₃)⟩
  | cont => obtain ⟨n', hn, hI'⟩ := q₃; exact ⟨n', hn, σ₃, hI', S₃, k₁.trans (k₂.trans k₃)⟩
  | brk => exact ⟨.next, σ₃, .next, S₃, k₁.trans (k₂.trans k₃), q₃⟩
  | ret i => exact ⟨_, σ₃, .ret i, S₃, k₁.trans (k₂.trans k₃), q₃⟩
inductive GotN (g : G) (h : Heap) (d : V) (σ : Store) (o : Option Value) (s' : Shared) : Prop
 | mk (v : Value) (e : o = some v) (i : Is s'.heap v d) (S : SGd g σ (Hp s')) (k : Keeps h s'.heap) : GotN g h d σ o s'
inductive EndN (g : G) (h : Heap) (σ : Store) (o : Option Value) (s' : Shared) : Prop
 | mk (e : o = none) (S : SGd g σ (Hp s')) (k : Keeps h s'.heap) : EndN g h σ o s'
structure It (g : G) (it : Addr) where
 n : Nat
 item : Nat → V
 own : Nat → Store
 src : Store → Prop
 know : Heap → Prop
 mono : ∀ h h', Keeps h h' → know h → know h'
 next : ∀ i, i < n → ∀ (A : Around) σ s, A.handled = none → src σ → know s.heap → SGd g (own i ++ σ) (Hp s) → wpAny (model g.prog g.w) A (pyNext (.ref it)) (GotN g s.heap (item i) (own (i + 1) ++ σ)) NoE s
 stop : ∀ (A : Around) σ s, A.handled = none → src σ → know s.heap → SGd g (own n ++ σ) (Hp s) → wpAny (model g.prog g.w) A (pyNext (.ref it)) (EndN g s.heap σ) NoE s
inductive ItGot (g : G) (h : Heap) (σ : Store) (Q : ∀ it, It g it → Prop) (w : Value) (s' : Shared) : Prop
 | mk (it : Addr) (I : It g it) (e : w = .ref it) (S : SGd g (I.own 0 ++ σ) (Hp s')) (k : Keeps h s'.heap) (n : I.know s'.heap) (q : Q it I) : ItGot g h σ Q w s'
noncomputable def IterO (g : G) (k : Nat) (σ : Store) (d : V) (Q : ∀ it, It g it → Prop) : Prop :=
 ∀ A, Room A k → ∀ s v, SGd g σ (Hp s) → Is s.heap v d → wpAny (model g.prog g.w) A (pyIter v) (ItGot g s.heap σ Q) NoE s
theorem HJ (O R : Store) (L : Addr) (m : Loc) (τ : Store) : (O ++ Fm R L m τ).Perm (Fm R L m (O ++ τ)) := by
 refine List.Perm.trans (List.perm_append_comm_assoc O R _) (List.Perm.append_left R ?_)
 exact List.perm_middle
end
end Mine
namespace Mine
section
variable {g : G} {k : Nat} {σ : Store} {a b : Int} {x y : Str} {Q : V → Store → Prop}
theorem Ab {h : Heap} {v : Value} {i : Int} (x : Is h v (.int i)) : ∃ t, v = .int i t := by cases x; exact ⟨_, rfl⟩
theorem B5 {h : Heap} {v : Value} {i : Str} (x : Is h v (.str i)) : ∃ t, v = .str i t := by cases x; exact ⟨_, rfl⟩
theorem HK {h : Heap} {v : Value} {i : Bool} (x : Is h v (.bool i)) : v = .bool i := by cases x; rfl
theorem FB {h : Heap} {v : Value} (x : Is h v .none) : v = .none := by cases x; rfl
theorem Ae {h : Heap} {v : Value} {a : Addr} (x : Is h v (.ref a)) : v = .ref a := by cases x; rfl
theorem Cw (q : Q (.int (a + b)) σ) : O2 g k Is σ (binaryOp .Add) (.int a) (.int b) Q := fun A r s v u S i j => by
 obtain ⟨t, rfl⟩ := Ab i; obtain ⟨t', rfl⟩ := Ab j
 exact add_int (AM (s := { s with toks := s.toks + 1 }) (.int _ _) S q)
theorem Hb (q : Q (.int (a - b)) σ) : O2 g k Is σ (binaryOp .Sub) (.int a) (.int b) Q := fun A r s v u S i j => by
 obtain ⟨t, rfl⟩ := Ab i; obtain ⟨t', rfl⟩ := Ab j
 exact sub_int (AM (s := { s with toks := s.toks + 1 }) (.int _ _) S q)
theorem O_iadd (q : Q (.int (a + b)) σ) : O2 g k Is σ (inplaceOp .Add) (.int a) (.int b) Q := fun A r s v u S i j => by
 obtain ⟨t, rfl⟩ := Ab i; obtain ⟨t', rfl⟩ := Ab j
 exact iadd_int (AM (s := { s with toks := s.toks + 1 }) (.int _ _) S q)
theorem O_isub (q : Q (.int (a - b)) σ) : O2 g k Is σ (inplaceOp .Sub) (.int a) (.int b) Q := fun A r s v u S i j => by
 obtain ⟨t, rfl⟩ := Ab i; obtain ⟨t', rfl⟩ := Ab j
 exact isub_int (AM (s := { s with toks := s.toks + 1 }) (.int _ _) S q)
theorem O_mul (hm : IntMulOk a b) (q : Q (.int (a * b)) σ) : O2 g k Is σ (binaryOp .Mult) (.int a) (.int b) Q := fun A r s v u S i j => by
 obtain ⟨t, rfl⟩ := Ab i; obtain ⟨t', rfl⟩ := Ab j
 exact mul_int (AM (s := { s with toks := s.toks + 1 }) (.int _ _) S q) hm
theorem O_div (hb : b ≠ 0) (hp : Builtin.divisionGoesByPylong a b = false) (q : Q (.int (a.fdiv b)) σ) : O2 g k Is σ (binaryOp .FloorDiv) (.int a) (.int b) Q := fun A r s v u S i j => by
 obtain ⟨t, rfl⟩ := Ab i; obtain ⟨t', rfl⟩ := Ab j
 exact floordiv_int hb (AM (s := { s with toks := s.toks + 1 }) (.int _ _) S q) (.inl hp)
theorem FC (hb : b ≠ 0) (q : Q (.int (a.fmod b)) σ) : O2 g k Is σ (binaryOp .Mod) (.int a) (.int b) Q := fun A r s v u S i j => by
 obtain ⟨t, rfl⟩ := Ab i; obtain ⟨t', rfl⟩ := Ab j
 exact mod_int' hb (AM (s := { s with toks := s.toks + 1 }) (.int _ _) S q)
theorem B8 (q : Q (.int (-a)) σ) : O1 g k Is σ (unaryOp .USub) (.int a) Q := fun A r s v S i => by
 obtain ⟨t, rfl⟩ := Ab i
 exact neg_int (AM (s := { s with toks := s.toks + 1 }) (.int _ _) S q)
theorem CX (q : Q (.bool (a == b)) σ) : O2 g k Is σ (compareOp .Eq) (.int a) (.int b) Q := fun A r s v u S i j => by
 obtain ⟨t, rfl⟩ := Ab i; obtain ⟨t', rfl⟩ := Ab j
 exact eq_int (AM (.bool _) S q)
theorem FD (q : Q (.bool (a != b)) σ) : O2 g k Is σ (compareOp .NotEq) (.int a) (.int b) Q := fun A r s v u S i j => by
 obtain ⟨t, rfl⟩ := Ab i; obtain ⟨t', rfl⟩ := Ab j
 exact ne_int (AM (.bool _) S q)
theorem O_ltI (q : Q (.bool (decide (a < b))) σ) : O2 g k Is σ (compareOp .Lt) (.int a) (.int b) Q := fun A r s v u S i j => by
 obtain ⟨t, rfl⟩ := Ab i; obtain ⟨t', rfl⟩ := Ab j
 exact lt_int (AM (.bool _) S q)
theorem O_gtI (q : Q (.bool (decide (a > b))) σ) : O2 g k Is σ (compareOp .Gt) (.int a) (.int b) Q := fun A r s v u S i j => by
 obtain ⟨t, rfl⟩ := Ab i; obtain ⟨t', rfl⟩ := Ab j
 exact gt_int (AM (.bool _) S q)
theorem O_geI (q : Q (.bool (decide (a ≥ b))) σ) : O2 g k Is σ (compareOp .GtE) (.int a) (.int b) Q := fun A r s v u S i j => by
 obtain ⟨t, rfl⟩ := Ab i; obtain ⟨t', rfl⟩ := Ab j
 exact ge_int (AM (.bool _) S q)
theorem B9 (q : Q (.bool (x == y)) σ) : O2 g k Is σ (compareOp .Eq) (.str x) (.str y) Q := fun A r s v u S i j => by
 obtain ⟨t, rfl⟩ := B5 i; obtain ⟨t', rfl⟩ := B5 j
 exact eq_str (AM (.bool _) S q)
theorem Ej (q : Q (.bool (x != y)) σ) : O2 g k Is σ (compareOp .NotEq) (.str x) (.str y) Q := fun A r s v u S i j => by
 obtain ⟨t, rfl⟩ := B5 i; obtain ⟨t', rfl⟩ := B5 j
 exact ne_str (AM (.bool _) S q)
theorem An {c : Bool} {Q : Bool → Store → Prop} (q : Q c σ) : O1 g k EqR σ truthy (.bool c) Q := fun A r s v S i => by
 rw [HK i]; exact wpAny_truthy_bool (AM rfl S q)
theorem O_addS {x y : Str} (hz : x.length + y.length ≤ sizeLine) (q : Q (.str (x ++ y)) σ) : O2 g k Is σ (binaryOp .Add) (.str x) (.str y) Q := fun A r s v u S i j => by
 obtain ⟨t, rfl⟩ := B5 i; obtain ⟨t', rfl⟩ := B5 j
 exact add_str (hsz := hz) fun t' tk => AM (s := { s with toks := tk }) (.str _ _) S q
theorem Aj {l : Addr} {ds : List V} {h : HS} (S : SGd g σ h) (m : (l, Cell.list ds) ∈ σ) : ∃ vs n, h.get? l = some (Cc vs n) ∧ h.IsList l vs.toArray ∧ IsS h.toHeap vs ds := by
 obtain ⟨vs, n, e, i⟩ := S.cells _ m
 exact ⟨vs, n, e, ⟨_, e, rfl, n, rfl⟩, i⟩
theorem Ay {value slice : Expr} {l : Addr} {ds : List V} {i : Int} {d : V} (m : (l, Cell.list ds) ∈ σ) (h0 : 0 ≤ i) (hi : i < 2 ^ 63) (hd : ds[i.toNat]? = some d) (q : Q d σ)
  (hs : ∀ o v, subscripted slice false o v = operate [o, v] (getItem o v) := by intro _ _; with_unfolding_all rfl) : O2 g k Is σ (subscriptTail value slice) (.ref l) (.int i) Q := fun A r s v u S iv ju => by
 rw [Ae iv]; obtain ⟨t, rfl⟩ := Ab ju
 obtain ⟨vs, n, e, hl, is⟩ := Aj S m
 obtain ⟨w, hw, iw⟩ := is.get _ _ hd
 exact tail_any hl.typeIs slot_list_getitem.lookup (wpAny_getItem_list hl h0 hi (by simpa using hw) (AM iw S q)) (hs _ _)
end
end Mine
namespace Mine
noncomputable def Cl (g : G) (k : Nat) (f : Value) (ds : List V) (σ : Store) (Q : V → Store → Prop) : Prop :=
 ∀ A, Room A k → ∀ s vs, SGd g σ (Hp s) → IsS s.heap vs ds → wpAny (model g.prog g.w) A (call f vs []) (Post g Is s.heap Q) NoE s
section
variable {g : G} {k : Nat} {σ : Store} {env : Env} {Q : V → Store → Prop}
theorem G0 {h : Heap} {vs : List Value} {d : V} (i : IsS h vs [d]) : ∃ v, vs = [v] ∧ Is h v d := by
 cases i with | cons a b => cases b; exact ⟨_, rfl, a⟩
theorem isS2 {h : Heap} {vs : List Value} {d e : V} (i : IsS h vs [d, e]) : ∃ v u, vs = [v, u] ∧ Is h v d ∧ Is h u e := by
 cases i with | cons a b => cases b with | cons c d => cases d; exact ⟨_, _, rfl, a, c⟩
theorem isS3 {h : Heap} {vs : List Value} {d e f : V} (i : IsS h vs [d, e, f]) : ∃ v u w, vs = [v, u, w] ∧ Is h v d ∧ Is h u e ∧ Is h w f := by
 cases i with | cons a b => cases b with | cons c d => cases d with | cons e f => cases f; exact ⟨_, _, _, rfl, a, c, e⟩
noncomputable abbrev ClK (g : G) (k : Nat) (f : Value) (Q : V → Store → Prop) : List V → Store → Prop := fun ds σ' => Cl g k f ds σ' Q
noncomputable abbrev ClK1 (g : G) (k : Nat) (f : Value) (d : V) (Q : V → Store → Prop) : List V → Store → Prop := fun ds σ' => Cl g k f (d :: ds) σ' Q
theorem Ar {x : Str} {p pos : Pos} {id : String} {a : Expr} {args : List Expr} (e : nsIn g.K mainGlobals x = some none) (hv : bootBuiltins x = some (.builtin id)) (hn : x ≠ "__name__")
  (h : WA g k σ env pos (a :: args) (ClK g k (.builtin id) Q))
  (he : starEach (a :: args) env = (false, eval a env) :: starEach args env := by rfl) (hplain : (backTo pos (starEach args env)).any (·.1) = false := by rfl)
  (hk : env.scope.kind = .function := by rfl) (hx : env.kindOf x = some .globalImplicit := by rfl) (hg : env.globals = mainGlobals := by rfl) (hb : env.builtins = builtinsNs := by rfl) (hd : (x == ("__debug__" : Str)) = false := by decide)
  (hc : eval (.Call (.Name x p) (a :: args) [] pos) env = (do callWith pos (← eval (.Name x p) env) [] (backTo pos (starEach (a :: args) env)) (backToKw pos (keywordEach [] env))) := by rfl) :
  WE g k σ env (.Call (.Name x p) (a :: args) [] pos) Q := fun A r s S => by
 refine Call_ (Name_function_global hk hx (loadGlobal_builtin (env := env) (hg ▸ g.T.g.keeps S.keep) (mg_none_of g.X g.T.g e) (hb ▸ g.T.b.keeps S.keep) ((g.T.builtins x hn).trans hv) ?_) hd) hc
 rw [he]
 refine Calls.callWith_builtin (by show (false || (backTo pos (starEach args env)).any (·.1)) = false; rw [hplain]; rfl) (Calls.evalArgs_plain ?_)
 show wpAny _ _ (spliced (backTo pos ((false, eval a env) :: starEach args env))) _ _ s
 rw [← he]
 exact W.run h r S fun vs ds σ' s' i S' kp q => wpAny_mono (q A r s' vs S' i) (fun a s' x => x.weak kp fun _ _ q => q) fun _ _ e => e
theorem Ap {x : Str} {p pos : Pos} {T : String} {a : Expr} {args : List Expr} (e : nsIn g.K mainGlobals x = some none) (hv : bootBuiltins x = some (.type T)) (hn : x ≠ "__name__")
  (h : WA g k σ env pos (a :: args) (ClK g k (.type T) Q))
  (he : starEach (a :: args) env = (false, eval a env) :: starEach args env := by rfl) (hplain : (backTo pos (starEach args env)).any (·.1) = false := by rfl)
  (hk : env.scope.kind = .function := by rfl) (hx : env.kindOf x = some .globalImplicit := by rfl) (hg : env.globals = mainGlobals := by rfl) (hb : env.builtins = builtinsNs := by rfl) (hd : (x == ("__debug__" : Str)) = false := by decide)
  (hc : eval (.Call (.Name x p) (a :: args) [] pos) env = (do callWith pos (← eval (.Name x p) env) [] (backTo pos (starEach (a :: args) env)) (backToKw pos (keywordEach [] env))) := by rfl) :
  WE g k σ env (.Call (.Name x p) (a :: args) [] pos) Q := fun A r s S =>
 Call_ (Name_function_global hk hx (loadGlobal_builtin (env := env) (hg ▸ g.T.g.keeps S.keep) (mg_none_of g.X g.T.g e) (hb ▸ g.T.b.keeps S.keep) ((g.T.builtins x hn).trans hv)
  (PyProof.Rows.callWith_type1 (W.run h r S fun vs ds σ' s' i S' kp q => wpAny_mono (q A r s' vs S' i) (fun a s' x => x.weak kp fun _ _ q => q) fun _ _ e => e) he hplain)) hd) hc
noncomputable def TyOf (g : G) (σ : Store) (d : V) (T : String) : Prop := ∀ (s : Shared) (v : Value), SGd g σ (Hp s) → Is s.heap v d → s.TypeIs v T ∧ ∀ a, v = .ref a → ∃ o : Obj, s.heap.get? a = some o ∧ o.dict = none
theorem Aq {name : Str} {pos : Pos} {T id : String} {d : V} {a : Expr} {args : List Expr} (hT : TyOf g σ d T)
  (pa : PlainAttrs T) (slot : Slot T name id) (hty : typeOf (.builtin id) = pure (.type "method_descriptor"))
  (h : WA g k σ env pos (a :: args) (ClK1 g k (.builtin id) d Q))
  (he : starEach (a :: args) env = (false, eval a env) :: starEach args env := by rfl) (hplain : (backTo pos (starEach args env)).any (·.1) = false := by rfl) :
  MOn g k σ env pos name d (a :: args) Q := fun A r s v pl h₀ S iv kp => by
 obtain ⟨hty', hd⟩ := hT s v S iv
 refine getMethod_builtin hty' pa slot hty hd ?_
 dsimp only
 rw [he]
 refine Calls.callWith_builtin (by show (false || (backTo pos (starEach args env)).any (·.1)) = false; rw [hplain]; rfl) (Calls.evalArgs_plain ?_)
 show wpAny _ _ (spliced (backTo pos ((false, eval a env) :: starEach args env))) _ _ s
 rw [← he]
 exact W.run h r S fun vs ds σ' s' i S' kp' q => wpAny_mono (q A r s' (v :: vs) S' (.cons (iv.mono kp') i)) (fun a s' x => x.weak (kp.trans kp') fun _ _ q => q) fun _ _ e => e
theorem By {name : Str} {pos : Pos} {T id : String} {d : V} (hT : TyOf g σ d T)
  (pa : PlainAttrs T) (slot : Slot T name id) (hty : typeOf (.builtin id) = pure (.type "method_descriptor"))
  (h : Cl g k (.builtin id) [d] σ Q) : MOn g k σ env pos name d [] Q := fun A r s v pl h₀ S iv kp => by
 obtain ⟨hty', hd⟩ := hT s v S iv
 refine getMethod_builtin hty' pa slot hty hd ?_
 refine Calls.callWith_builtin rfl (evalArgs_nil3 ?_)
 exact wpAny_mono (h A r s [v] S (.cons iv .nil)) (fun a s' x => x.weak kp fun _ _ q => q) fun _ _ e => e
theorem TyOf.list {l : Addr} {ds : List V} (m : (l, Cell.list ds) ∈ σ) : TyOf g σ (.ref l) "list" := fun s v S i => by
 obtain ⟨vs, n, e, hl, _⟩ := Aj S m
 rw [Ae i]
 exact ⟨hl.typeIs, fun a q => by cases q; exact ⟨_, e, rfl⟩⟩
theorem TyOf.str {x : Str} : TyOf g σ (.str x) "str" := fun s v S i => by
 obtain ⟨t, rfl⟩ := B5 i
 exact ⟨typeIs_str _ _ _, fun a q => by cases q⟩
theorem Aa {l : Addr} {ds : List V} {d : V} {σ' : Store} (u : Upd1 l (.list ds) (.list (ds ++ [d])) σ σ') (hz : ds.length ≤ sizeLine) (q : Q .none σ') : Cl g k (.builtin "list.append") [.ref l, d] σ Q := fun A r s vs S i => by
 obtain ⟨v, w, rfl, iv, iw⟩ := isS2 i
 rw [Ae iv]
 obtain ⟨items, n, e, hl, is⟩ := Aj S u.mem
 have hz' : items.toArray.size ≤ sizeLine := by rw [List.size_toArray, is.length]; exact hz
 refine call_meets F.slot_list_append hl.typeIs F.entry_list_append (F.args_list_append_2 _ _) (list_append l items.toArray n w hz') ⟨e, ?_⟩
 obtain ⟨S', kp⟩ := S.turn u (h' := s.heap.update l (Obj.mapSeq fun x => x.push w)) (fun b o hb eb => (Heap.get?_update_ne _ _ _ _ hb).trans eb) fun kp => by
  have := Heap.get?_update_self (Obj.mapSeq fun x => x.push w) e rfl
  exact ⟨items ++ [w], n + 1, by rw [this]; simp [Obj.mapSeq], (is.mono kp).append (.one (iw.mono kp))⟩
 exact ⟨.none, σ', .none, S', kp, q⟩
theorem Cl_pop {l : Addr} {ds : List V} {d : V} {σ' : Store} (u : Upd1 l (.list (ds ++ [d])) (.list ds) σ σ') (hz : ds.length < sizeLine) (q : Q d σ') : Cl g k (.builtin "list.pop") [.ref l] σ Q := fun A r s vs S i => by
 obtain ⟨v, rfl, iv⟩ := G0 i
 rw [Ae iv]
 obtain ⟨items, n, e, hl, is⟩ := Aj S u.mem
 have hlen := is.length
 rw [List.length_append, List.length_singleton] at hlen
 obtain ⟨w, hw, iw⟩ := is.get ds.length d (by simp)
 have hz' : items.toArray.size ≤ sizeLine := by rw [List.size_toArray, hlen]; omega
 refine call_meets F.slot_list_pop hl.typeIs F.entry_list_pop (F.args_list_pop_1 _) (MeetsSeq.list_pop_last l items.toArray n w (by simp only [List.size_toArray, hlen, Nat.add_sub_cancel, List.getElem?_toArray]; exact hw) hz') ⟨e, ?_⟩
 obtain ⟨S', kp⟩ := S.turn u (h' := s.heap.update l (Obj.mapSeq fun xs => xs.eraseIdxIfInBounds (items.toArray.size - 1))) (fun b o hb eb => (Heap.get?_update_ne _ _ _ _ hb).trans eb) fun kp => by
  have := Heap.get?_update_self (Obj.mapSeq fun xs => xs.eraseIdxIfInBounds (items.toArray.size - 1)) e rfl
  have e1 : items.toArray.eraseIdxIfInBounds (items.toArray.size - 1) = (items.take ds.length).toArray := by
   have hlt : items.length - 1 < items.length := by omega
   simp only [List.size_toArray, Array.eraseIdxIfInBounds, hlt, dif_pos]
   simp [List.eraseIdx_toArray, hlen, List.eraseIdx_eq_take_drop_succ]
  have is' := (is.mono kp).take ds.length
  rw [List.take_left' rfl] at is'
  refine ⟨items.take ds.length, if (items.take ds.length).toArray.size == items.toArray.size then n else n + 1, ?_, is'⟩
  rw [this]
  simp only [Obj.mapSeq, e1]
 exact ⟨d, σ', iw.mono kp, S', kp, q⟩
theorem insert_call {prog : Program} {w : World} {A : Around} {E : Value → Shared → Prop} {s : Shared} {l : Addr} {items : List Value} {n : Nat} {N : Int} {t : Tok} {x : Value} {Q : Value → Shared → Prop} (e : s.heap.get? l = some (Cc items n)) (h0 : N = items.length)
  (hz : items.length ≤ sizeLine) (h : ∀ h' n', h'.get? l = some (Cc (items ++ [x]) n') → Heap.SameBut l s.heap h' → Q .none { s with heap := h' }) : wpAny (model prog w) A (call (.builtin "list.insert") [.ref l, .int N t, x]) Q E s := by
 have hl : s.heap.IsList l items.toArray := ⟨_, e, rfl, n, rfl⟩
 have hfit : Builtin.List.listFitsIndex N = true := fitsIndex_of (by omega) (by rw [sizeLine_eq] at hz; omega)
 have hfit' : ¬ (!Builtin.List.listFitsIndex N) = true := by rw [hfit]; decide
 have hz' : items.toArray.size ≤ sizeLine := by rw [List.size_toArray]; exact hz
 refine call_meets F.slot_list_insert hl.typeIs F.entry_list_insert (F.args_list_insert_3 _ _ _) (AutoListH.list_insert_list_int_val_1 l items.toArray n N t x hfit' hz') ⟨e, ?_⟩
 have e1 : (have k := if N < 0 then (N + ((items.toArray.size : Nat) : Int)).toNat else min N.toNat items.toArray.size; (items.toArray.extract 0 k).push x ++ items.toArray.extract k) = (items ++ [x]).toArray := by
  have hneg : ¬ N < 0 := by omega
  have hN : N.toNat = items.length := by omega
  simp [hneg, hN]
 refine h _ (if (items ++ [x]).toArray.size == items.toArray.size then n else n + 1) ?_ (Heap.SameBut.update ..)
 rw [Heap.get?_update_self _ e rfl]
 simp only [Obj.mapSeq, e1]
theorem Cl_insert_end {l : Addr} {ds : List V} {d : V} {i : Int} {σ' : Store} (u : Upd1 l (.list ds) (.list (ds ++ [d])) σ σ') (hi : i = ds.length) (hz : ds.length ≤ sizeLine) (q : Q .none σ') : Cl g k (.builtin "list.insert") [.ref l, .int i, d] σ Q := fun A r s vs S is => by
 obtain ⟨v, w, x, rfl, iv, iw, ix⟩ := isS3 is
 rw [Ae iv]
 obtain ⟨t, rfl⟩ := Ab iw
 obtain ⟨items, n, e, hl, is⟩ := Aj S u.mem
 refine insert_call e (by rw [is.length]; exact hi) (by rw [is.length]; exact hz) fun h' n' e' hs => ?_
 obtain ⟨S', kp⟩ := S.turn u (h' := h') (fun b o hb eb => (hs.2 b hb).trans eb) fun kp => ⟨items ++ [x], n', e', (is.mono kp).append (.one (ix.mono kp))⟩
 exact ⟨.none, σ', .none, S', kp, q⟩
theorem BT {l : Addr} {ds : List V} (m : (l, Cell.list ds) ∈ σ) (hz : ds.length ≤ sizeLine) (q : Q (.int ds.length) σ) : Cl g k (.builtin "len") [.ref l] σ Q := fun A r s vs S i => by
 obtain ⟨v, rfl, iv⟩ := G0 i
 rw [Ae iv]
 obtain ⟨items, n, e, hl, is⟩ := Aj S m
 refine Calls.call_len_list hl (by rw [List.size_toArray, is.length]; rw [sizeLine_eq] at hz; omega) ?_
 rw [List.size_toArray, is.length]
 exact AM (s := { s with toks := s.toks + 1 + 1 }) (.int _ _) S q
end
end Mine
namespace Mine
noncomputable def V.eqS (x : Str) : V → Bool
 | .str y => y == x
 | _ => false
noncomputable def V.eqI (n : Int) : V → Bool
 | .int y => y == n
 | _ => false
noncomputable def V.isS : V → Bool
 | .str _ => true
 | _ => false
noncomputable def V.isI : V → Bool
 | .int _ => true
 | _ => false
theorem FE (x : Str) (xs : List Str) : (xs.map V.str).any (V.eqS x) = xs.contains x := by
 induction xs with
 | nil => rfl
 | cons y ys ih => simp only [List.map_cons, List.any_cons, List.contains_cons, ih, V.eqS]; rw [show (y == x) = (x == y) from BEq.comm]
theorem any_ints (x : Int) (xs : List Int) : (xs.map V.int).any (V.eqI x) = xs.contains x := by
 induction xs with
 | nil => rfl
 | cons y ys ih => simp only [List.map_cons, List.any_cons, List.contains_cons, ih, V.eqI]; rw [show (y == x) = (x == y) from BEq.comm]
theorem E4 (xs : List Str) : (xs.map V.str).all V.isS = true := by induction xs <;> simp_all [V.isS]
theorem all_ints (xs : List Int) : (xs.map V.int).all V.isI = true := by induction xs <;> simp_all [V.isI]
section
variable {g : G} {k : Nat} {σ : Store} {env : Env} {Q : V → Store → Prop}
theorem IsS.mem {h : Heap} : ∀ {vs ds}, IsS h vs ds → ∀ v ∈ vs, ∃ d ∈ ds, Is h v d
 | _, _, .cons a b, v, hv => by
  rcases List.mem_cons.mp hv with rfl | hv
  ·exact ⟨_, .head _, a⟩
  ·obtain ⟨d, hd, i⟩ := b.mem v hv; exact ⟨d, .tail _ hd, i⟩
theorem DV {h : Heap} (x : Str) : ∀ {vs ds}, IsS h vs ds → vs.any (·.isStr x) = ds.any (V.eqS x)
 | _, _, .nil => rfl
 | _, _, .cons (v := v) (d := d) a b => by
  rw [List.any_cons, List.any_cons, DV x b]
  congr 1
  cases a <;> rfl
noncomputable def isIntV (n : Int) : Value → Bool
 | .int m _ => m == n
 | _ => false
theorem any_isInt {h : Heap} (x : Int) : ∀ {vs ds}, IsS h vs ds → vs.any (isIntV x) = ds.any (V.eqI x)
 | _, _, .nil => rfl
 | _, _, .cons (v := v) (d := d) a b => by
  rw [List.any_cons, List.any_cons, any_isInt x b]
  congr 1
  cases a <;> rfl
theorem E5 {h : Heap} {A : Around} {s : Shared} {x : Str} {t : Tok} {vs ds} (i : IsS h vs ds) (all : ds.all V.isS = true) : ∀ y, y ∈ vs.toArray → EqAt A s y (.str x t) (y.isStr x) := fun y hy => by
 obtain ⟨d, hd, iy⟩ := i.mem y (by simpa using hy)
 have := List.all_eq_true.mp all d hd
 cases iy <;> first | exact EqAt.str_str _ _ _ _ | cases this
theorem eqAt_int {h : Heap} {A : Around} {s : Shared} {x : Int} {t : Tok} {vs ds} (i : IsS h vs ds) (all : ds.all V.isI = true) : ∀ y, y ∈ vs.toArray → EqAt A s y (.int x t) (isIntV x y) := fun y hy => by
 obtain ⟨d, hd, iy⟩ := i.mem y (by simpa using hy)
 have := List.all_eq_true.mp all d hd
 cases iy <;> first | exact EqAt.int_int _ _ _ _ | cases this
theorem O_inT {x : Str} {ds : List V} (q : Q (.bool (ds.any (V.eqS x))) σ) (all : ds.all V.isS = true := by rfl) : O2 g k Is σ (compareOp .In) (.str x) (.tup ds) Q := fun A r s v u S i j => by
 obtain ⟨t, rfl⟩ := B5 i
 obtain ⟨a, vs, rfl, ht, is⟩ := BP j
 refine in_tupleAt (fun y => y.isStr x) ht (E5 is all) ?_
 rw [List.any_toArray, DV x is]
 exact AM (.bool _) S q
theorem O_ninT {x : Str} {ds : List V} (q : Q (.bool (!ds.any (V.eqS x))) σ) (all : ds.all V.isS = true := by rfl) : O2 g k Is σ (compareOp .NotIn) (.str x) (.tup ds) Q := fun A r s v u S i j => by
 obtain ⟨t, rfl⟩ := B5 i
 obtain ⟨a, vs, rfl, ht, is⟩ := BP j
 refine notIn_tupleAt (fun y => y.isStr x) ht (E5 is all) ?_
 rw [List.any_toArray, DV x is]
 exact AM (.bool _) S q
theorem Et {x : Str} {l : Addr} {xs : List Str} (m : (l, Cell.list (xs.map V.str)) ∈ σ) (q : Q (.bool (xs.contains x)) σ) : O2 g k Is σ (compareOp .In) (.str x) (.ref l) Q := fun A r s v u S i j => by
 obtain ⟨t, rfl⟩ := B5 i
 rw [Ae j]
 obtain ⟨vs, n, e, hl, is⟩ := Aj S m
 refine in_listAt (fun y => y.isStr x) hl (E5 is (E4 xs)) ?_
 rw [List.any_toArray, DV x is, FE]
 exact AM (.bool _) S q
theorem O_ninLS {x : Str} {l : Addr} {xs : List Str} (m : (l, Cell.list (xs.map V.str)) ∈ σ) (q : Q (.bool (!xs.contains x)) σ) : O2 g k Is σ (compareOp .NotIn) (.str x) (.ref l) Q := fun A r s v u S i j => by
 obtain ⟨t, rfl⟩ := B5 i
 rw [Ae j]
 obtain ⟨vs, n, e, hl, is⟩ := Aj S m
 refine notIn_listAt (fun y => y.isStr x) hl (E5 is (E4 xs)) ?_
 rw [List.any_toArray, DV x is, FE]
 exact AM (.bool _) S q
theorem O_inLI {x : Int} {l : Addr} {xs : List Int} (m : (l, Cell.list (xs.map V.int)) ∈ σ) (q : Q (.bool (xs.contains x)) σ) : O2 g k Is σ (compareOp .In) (.int x) (.ref l) Q := fun A r s v u S i j => by
 obtain ⟨t, rfl⟩ := Ab i
 rw [Ae j]
 obtain ⟨vs, n, e, hl, is⟩ := Aj S m
 refine in_listAt (isIntV x) hl (eqAt_int is (all_ints xs)) ?_
 rw [List.any_toArray, any_isInt x is, any_ints]
 exact AM (.bool _) S q
theorem CA {value slice : Expr} {ds : List V} {i : Int} {d : V} (j : Nat) (hj : seqIndex? i ds.length = some j) (hd : ds[j]? = some d) (q : Q d σ) (h0 : -(2 ^ 63) ≤ i := by decide) (hi : i < 2 ^ 63 := by decide)
  (hs : ∀ o v, subscripted slice false o v = operate [o, v] (getItem o v) := by intro _ _; with_unfolding_all rfl) : O2 g k Is σ (subscriptTail value slice) (.tup ds) (.int i) Q := fun A r s v u S iv ju => by
 obtain ⟨t, rfl⟩ := Ab ju
 obtain ⟨a, vs, rfl, ht, is⟩ := BP iv
 obtain ⟨w, hw, iw⟩ := is.get _ _ hd
 exact tail_any ht.typeIs slot_tuple_getitem.lookup (PyProof.Rows.getItem_tuple ht h0 hi (by rw [List.size_toArray, is.length]; exact hj) (by simpa using hw) (AM iw S q)) (hs _ _)
theorem FG {value slice : Expr} {l : Addr} {ds : List V} {d : V} (m : (l, Cell.list ds) ∈ σ) (hd : ds.getLast? = some d) (q : Q d σ)
  (hs : ∀ o v, subscripted slice false o v = operate [o, v] (getItem o v) := by intro _ _; with_unfolding_all rfl) : O2 g k Is σ (subscriptTail value slice) (.ref l) (.int (-1)) Q := fun A r s v u S iv ju => by
 rw [Ae iv]; obtain ⟨t, rfl⟩ := Ab ju
 obtain ⟨vs, n, e, hl, is⟩ := Aj S m
 rw [List.getLast?_eq_getElem?] at hd
 obtain ⟨w, hw, iw⟩ := is.get _ _ hd
 have hpos : 0 < ds.length := by
  cases ds with
  | nil => simp at hd
  | cons _ _ => simp
 exact tail_any hl.typeIs slot_list_getitem.lookup (wpAny_getItem_list_neg hl (by decide) (by rw [List.size_toArray, is.length]; omega) (by decide)
  (by rw [List.size_toArray, is.length, show (-1 + (ds.length : Int)).toNat = ds.length - 1 by omega]; simpa using hw) (AM iw S q)) (hs _ _)
theorem Go {prog : Program} {w : World} {A : Around} {E : Value → Shared → Prop} {s : Shared} {l : Addr} {vs : List Value} {n : Nat} {i : Int} {t : Tok} {v : Value} {Q : Unit → Shared → Prop} (e : s.heap.get? l = some (Cc vs n))
  (h0 : 0 ≤ i) (hfit : i < 2 ^ 63) (hn : i.toNat < vs.length)
  (hQ : ∀ h' n', h'.get? l = some (Cc (vs.set i.toNat v) n') → Heap.SameBut l s.heap h' → Q () { s with heap := h' }) :
  wpAny (model prog w) A (setItem (.ref l) (.int i t) v) Q E s := by
 have hl : s.heap.IsList l vs.toArray := ⟨_, e, rfl, n, rfl⟩
 unfold setItem
 try with_reducible refine wpAny_holding ?_
 first | refine wpAny_bind (wpAny_pure ?_) | skip
 refine wpAny_bind (wpAny_sequenceKey hl.typeIs (by decide) ?_)
 refine wpAny_bind (wpAny_callSpecial?_slot (name := zs "__setitem__") hl.typeIs slot_list_setitem
  (wpAny_call_entry slot_list_setitem hl.typeIs entry_list_setitem ?_ (args_list_setitem _ _ _)))
 show wpAny _ _ (Builtin.List.listSubscript? (.int i t) >>= _) _ _ s
 refine wpAny_bind (wpAny_listSubscript_int (fitsIndex_of h0 hfit) ?_)
 clear hfit
 obtain ⟨j, rfl⟩ := Int.eq_ofNat_of_zero_le h0
 have hj : j < vs.toArray.size := by simpa using hn
 have hx' : vs.toArray[j]? = some vs.toArray[j] := Array.getElem?_eq_getElem hj
 show wpAny _ _ ((seqItemAt l j >>= fun r => pure (r.map (j, ·))) >>= _) _ _ s
 refine wpAny_bind (wpAny_bind (wpAny_seqItemAt e rfl (wpAny_pure ?_)))
 rw [hx']
 show wpAny _ _ (setSeqItemAt l j v >>= _) _ _ s
 have hfin : (s.heap.update l (Obj.mapSeq (·.setIfInBounds j v))).get? l = some (Cc (vs.set j v) n) := by
  rw [Heap.get?_update_self _ e rfl]; simp [Obj.mapSeq]
 refine wpAny_bind (wpAny_setSeqItemAt e rfl ?_)
 first
  | exact wpAny_bind (wpAny_pure (wpAny_pure ⟨.none, rfl, wpAny_pure (hQ _ _ hfin (Heap.SameBut.update ..))⟩))
  | exact wpAny_pure ⟨.none, rfl, wpAny_pure (hQ _ _ hfin (Heap.SameBut.update ..))⟩
theorem O_setL {l : Addr} {ds : List V} {i : Int} {d : V} {σ' : Store} {Q : Unit → Store → Prop} (u : Upd1 l (.list ds) (.list (ds.set i.toNat d)) σ σ') (h0 : 0 ≤ i) (hi : i < 2 ^ 63) (hlt : i.toNat < ds.length) (q : Q () σ') :
  O3 g k EqR σ (fun ov iv v => setItem ov iv v) (.ref l) (.int i) d Q := fun A r s v w x S iv iw ix => by
 rw [Ae iv]; obtain ⟨t, rfl⟩ := Ab iw
 obtain ⟨vs, n, e, hl, is⟩ := Aj S u.mem
 refine Go e h0 hi (by rw [is.length]; exact hlt) fun h' n' e' hs => ?_
 obtain ⟨S', kp⟩ := S.turn u (h' := h') (fun b o hb eb => (hs.2 b hb).trans eb) fun kp => ⟨vs.set i.toNat x, n', e', (is.mono kp).set (ix.mono kp) _⟩
 exact ⟨(), σ', rfl, S', kp, q⟩
theorem Vals.lookup {K : Type} [DecidableEq K] {h : Heap} : ∀ {kvs : List (K × Value)} {es : List (K × V)}, Vals h kvs es → ∀ x, (es.find? (fun e => decide (e.1 = x)) = none → valueAt kvs x = none) ∧ ∀ d, (es.find? (fun e => decide (e.1 = x))).map (·.2) = some d → ∃ v, valueAt kvs x = some v ∧ Is h v d
 | _, _, .nil, x => ⟨fun _ => rfl, fun d e => by cases e⟩
 | _, _, .cons (k := y) i r, x => by
  unfold valueAt
  by_cases q : y = x
  ·simp only [List.find?, q, decide_true]
   exact ⟨fun e => (nomatch e), fun d e => by cases e; exact ⟨_, rfl, i⟩⟩
  ·simp only [List.find?, q, decide_false]
   exact r.lookup x
noncomputable def atI (es : List (Int × V)) (x : Int) : Option V := (es.find? (fun e => decide (e.1 = x))).map (·.2)
noncomputable def atS (es : List (Str × V)) (x : Str) : Option V := (es.find? (fun e => decide (e.1 = x))).map (·.2)
theorem atI_none {es : List (Int × V)} {x : Int} (e : atI es x = none) : es.find? (fun e => decide (e.1 = x)) = none := by
 unfold atI at e; cases q : es.find? (fun e => decide (e.1 = x)) with | none => rfl | some y => rw [q] at e; cases e
theorem atS_none {es : List (Str × V)} {x : Str} (e : atS es x = none) : es.find? (fun e => decide (e.1 = x)) = none := by
 unfold atS at e; cases q : es.find? (fun e => decide (e.1 = x)) with | none => rfl | some y => rw [q] at e; cases e
theorem Hc {h : HS} (S : SGd g σ h) {d : Addr} {c : Cell} (m : (d, c) ∈ σ) : (d == sysModules) = false := by
 have h3 : 3 < d := S.big _ m
 have : ¬ d = 1 := fun e => by rw [e] at h3; exact absurd h3 (by decide)
 show (d == 1) = false
 simpa using this
theorem O_inDI {d : Addr} {es : List (Int × V)} {i : Int} (m : (d, Cell.idict es) ∈ σ) (q : Q (.bool (atI es i).isSome) σ) : O2 g k Is σ (compareOp .In) (.int i) (.ref d) Q := fun A r s v u S iv ju => by
 obtain ⟨t, rfl⟩ := Ab iv; rw [Ae ju]
 obtain ⟨kvs, hd, vals⟩ := S.cells _ m
 refine wpAny_in_of (knd := intKind g.prog g.w) (intKind_is _ _ i t) (Hc S m) hd.mapOf ?_
 have : (valueAt kvs i).isSome = (atI es i).isSome := by
  cases e : atI es i with
  | none => rw [(vals.lookup i).1 (atI_none e)]; rfl
  | some d => obtain ⟨v, hv, _⟩ := (vals.lookup i).2 d e; rw [hv]; rfl
 rw [this]
 exact AM (s := { s with toks := s.toks + 1 }) (.bool _) S q
theorem O_itemDI {value slice : Expr} {d : Addr} {es : List (Int × V)} {i : Int} {e : V} (m : (d, Cell.idict es) ∈ σ) (he : atI es i = some e) (q : Q e σ)
  (hs : ∀ o v, subscripted slice false o v = operate [o, v] (getItem o v) := by intro _ _; with_unfolding_all rfl) : O2 g k Is σ (subscriptTail value slice) (.ref d) (.int i) Q := fun A r s v u S iv ju => by
 rw [Ae iv]; obtain ⟨t, rfl⟩ := Ab ju
 obtain ⟨kvs, hd, vals⟩ := S.cells _ m
 obtain ⟨w, hw, iw⟩ := (vals.lookup i).2 e he
 exact tail_any hd.typeIs slot_dict_getitem.lookup (wpAny_getItem_of (knd := intKind g.prog g.w) (intKind_is _ _ i t) hd.mapOf hw (AM (s := { s with toks := s.toks + 1 }) iw S q)) (hs _ _)
theorem BH {value slice : Expr} {d : Addr} {es : List (Str × V)} {i : Str} {e : V} (m : (d, Cell.sdict es) ∈ σ) (he : atS es i = some e) (q : Q e σ)
  (hs : ∀ o v, subscripted slice false o v = operate [o, v] (getItem o v) := by intro _ _; with_unfolding_all rfl) : O2 g k Is σ (subscriptTail value slice) (.ref d) (.str i) Q := fun A r s v u S iv ju => by
 rw [Ae iv]; obtain ⟨t, rfl⟩ := B5 ju
 obtain ⟨kvs, hd, vals⟩ := S.cells _ m
 obtain ⟨w, hw, iw⟩ := (vals.lookup i).2 e he
 exact tail_any hd.typeIs slot_dict_getitem.lookup (wpAny_getItem_of (knd := strKind g.prog g.w) (strKind_is _ _ i t) hd.mapOf hw (AM (s := { s with toks := s.toks + 1 }) iw S q)) (hs _ _)
noncomputable def Gp {K : Type} [DecidableEq K] (x : K) (d : V) (es : List (K × V)) : List (K × V) := if es.any (fun e => decide (e.1 = x)) then es.map (fun e => if e.1 = x then (e.1, d) else e) else es ++ [(x, d)]
theorem Vals.length {K : Type} {h : Heap} {kvs : List (K × Value)} {es : List (K × V)} (x : Vals h kvs es) : kvs.length = es.length := by
 induction x with
 | nil => rfl
 | cons _ _ ih => simp [ih]
theorem Vals.any {K : Type} [DecidableEq K] {h : Heap} {kvs : List (K × Value)} {es : List (K × V)} (x : Vals h kvs es) (y : K) : kvs.any (fun e => decide (e.1 = y)) = es.any (fun e => decide (e.1 = y)) := by
 induction x with
 | nil => rfl
 | cons _ _ ih => simp [ih]
theorem Vals.put {K : Type} [DecidableEq K] {h : Heap} {kvs : List (K × Value)} {es : List (K × V)} (x : Vals h kvs es) (y : K) {v : Value} {d : V} (i : Is h v d) : Vals h (stored kvs y v) (Gp y d es) := by
 unfold stored Gp
 rw [x.any y]
 split
 ·rename_i hh
  clear hh
  induction x with
  | nil => exact .nil
  | cons j _ ih =>
   simp only [List.map_cons]
   split
   ·exact .cons i ih
   ·exact .cons j ih
 ·rename_i hh
  clear hh
  induction x with
  | nil => exact .cons i .nil
  | cons j _ ih => exact .cons j ih
theorem O_setDI {d : Addr} {es : List (Int × V)} {i : Int} {e : V} {σ' : Store} {Q : Unit → Store → Prop} (u : Upd1 d (.idict es) (.idict (Gp i e es)) σ σ') (hz : es.length ≤ sizeLine) (q : Q () σ') :
  O3 g k EqR σ (fun ov iv v => setItem ov iv v) (.ref d) (.int i) e Q := fun A r s v w x S iv iw ix => by
 rw [Ae iv]; obtain ⟨t, rfl⟩ := Ab iw
 obtain ⟨kvs, hd, vals⟩ := S.cells _ u.mem
 refine wpAny_setItem_pairs (knd := intKind g.prog g.w) (intKind_is _ _ i t) hd (fun h' hd' hs => ?_) (hsz := by rw [vals.length]; exact hz)
 obtain ⟨S', kp⟩ := S.turn u (h' := h') (fun b o hb eb => (hs.2 b hb).trans eb) fun kp => ⟨_, hd', (vals.mono kp).put i (ix.mono kp)⟩
 exact ⟨(), σ', rfl, S', kp, q⟩
theorem EU {d : Addr} {es : List (Str × V)} {i : Str} {e : V} {σ' : Store} {Q : Unit → Store → Prop} (u : Upd1 d (.sdict es) (.sdict (Gp i e es)) σ σ') (hz : es.length ≤ sizeLine) (q : Q () σ') :
  O3 g k EqR σ (fun ov iv v => setItem ov iv v) (.ref d) (.str i) e Q := fun A r s v w x S iv iw ix => by
 rw [Ae iv]; obtain ⟨t, rfl⟩ := B5 iw
 obtain ⟨kvs, hd, vals⟩ := S.cells _ u.mem
 refine wpAny_setItem_pairs (knd := strKind g.prog g.w) (strKind_is _ _ i t) hd (fun h' hd' hs => ?_) (hsz := by rw [vals.length]; exact hz)
 obtain ⟨S', kp⟩ := S.turn u (h' := h') (fun b o hb eb => (hs.2 b hb).trans eb) fun kp => ⟨_, hd', (vals.mono kp).put i (ix.mono kp)⟩
 exact ⟨(), σ', rfl, S', kp, q⟩
end
end Mine
namespace Mine
section
variable {g : G} {k : Nat} {σ : Store} {env : Env} {Q : V → Store → Prop}
theorem G1 {ds : List V} {i : Nat} (h : i < ds.length) : ds[i]? = some (ds.getD i .none) := by
 rw [List.getD_eq_getElem?_getD, List.getElem?_eq_getElem h]; rfl
noncomputable def litP (l : Addr) (i : Nat) (o : Obj) : Prop := o.cls = .type "list_iterator" ∧ o.data = .fields #[.ref l, .int i 0]
noncomputable def itL (g : G) (it l : Addr) (ds : List V) : It g it where
 n := ds.length
 item i := ds.getD i .none
 own i := [(it, .pr (litP l i))]
 src σ := (l, .list ds) ∈ σ
 know _ := True
 mono _ _ _ x := x
 next i hi A σ s hh hs _ S := by
  obtain ⟨o, ho, ⟨hc, hd⟩, _⟩ := S.cells _ (.head _)
  obtain ⟨vs, n, e, hl, is⟩ := Aj S (List.mem_append_right _ hs)
  obtain ⟨v, hv, iv⟩ := is.get _ _ (G1 hi)
  refine wpAny_pyNext_list_item ⟨o, ho, hc, hd⟩ hl (x := v) (by simpa using hv) fun h' hit hsb => ?_
  obtain ⟨o', ho', hc', hd'⟩ := hit
  obtain ⟨S', kp⟩ := S.turn (c' := .pr (litP l (i + 1))) .head (fun b o hb e => (hsb.2 b hb).trans e) fun kp => ⟨o', ho', ⟨hc', hd'⟩, fun _ _ q => by subst q; cases hd'⟩
  exact ⟨v, rfl, iv.mono kp, S', kp⟩
 stop A σ s hh hs kn S := by
  obtain ⟨o, ho, ⟨hc, hd⟩, _⟩ := S.cells _ (.head _)
  obtain ⟨vs, n, e, hl, is⟩ := Aj S (List.mem_append_right _ hs)
  refine wpAny_pyNext_list_end hh ⟨o, ho, hc, hd⟩ hl (by rw [List.getElem?_toArray]; exact List.getElem?_eq_none (by rw [is.length]; exact Nat.le_refl _)) fun h' he => ?_
  obtain ⟨S', kp⟩ := S.drop (σ := σ) he
  exact ⟨rfl, S', kp⟩
theorem CQ {l : Addr} {ds : List V} {Q : ∀ it, It g it → Prop} (m : (l, Cell.list ds) ∈ σ) (q : ∀ it, Q it (itL g it l ds)) : IterO g k σ (.ref l) Q := fun A r s v S iv => by
 rw [Ae iv]
 obtain ⟨vs, n, e, hl, is⟩ := Aj S m
 refine wpAny_pyIter_list hl ⟨_, itL g _ l ds, rfl, ?_, Keeps.push _ _, trivial, q _⟩
 exact S.alloc (σ := []) (τ := σ) (fun _ _ e => Heap.get?_push_of_some _ e) (Nat.le_refl _) ⟨_, Heap.get?_push_size _ rfl, ⟨rfl, rfl⟩, fun _ _ q => absurd (congrArg Obj.cls q) (by simp)⟩
noncomputable def titP (t : Addr) (i : Nat) (o : Obj) : Prop := o.cls = .type "tuple_iterator" ∧ o.data = .fields #[.ref t, .int i 0]
noncomputable def itT (g : G) (it t : Addr) (ds : List V) : It g it where
 n := ds.length
 item i := ds.getD i .none
 own i := [(it, .pr fun o => titP t i o)]
 src σ := True
 know h := Is h (.ref t) (.tup ds)
 mono _ _ kp x := x.mono kp
 next i hi A σ s hh hs kn S := by
  obtain ⟨o, ho, ⟨hc, hd⟩, _⟩ := S.cells _ (.head _)
  obtain ⟨a, vs, q, ht, is⟩ := BP kn
  cases q
  obtain ⟨v, hv, iv⟩ := is.get _ _ (G1 hi)
  refine next_tuple_item ⟨o, ho, hc, hd⟩ ht (x := v) (by simpa using hv) fun h' hit hsb => ?_
  obtain ⟨o', ho', hc', hd'⟩ := hit
  obtain ⟨S', kp⟩ := S.turn (c' := .pr (titP t (i + 1))) .head (fun b o hb e => (hsb.2 b hb).trans e) fun kp => ⟨o', ho', ⟨hc', hd'⟩, fun _ _ q => by subst q; cases hd'⟩
  exact ⟨v, rfl, iv.mono kp, S', kp⟩
 stop A σ s hh hs kn S := by
  obtain ⟨o, ho, ⟨hc, hd⟩, _⟩ := S.cells _ (.head _)
  obtain ⟨a, vs, q, ht, is⟩ := BP kn
  cases q
  refine next_tuple_end hh ⟨o, ho, hc, hd⟩ ht (by rw [List.getElem?_toArray]; exact List.getElem?_eq_none (by rw [is.length]; exact Nat.le_refl _)) fun h' he => ?_
  obtain ⟨S', kp⟩ := S.drop (σ := σ) he
  exact ⟨rfl, S', kp⟩
noncomputable def ritP (x left step : Int) (o : Obj) : Prop := o = { cls := .type "range_iterator", dict := none, data := .fields #[rawInt x, rawInt left, rawInt step], slots := #[] }
noncomputable def itR (g : G) (it : Addr) (a c : Int) (n : Nat) : It g it where
 n := n
 item i := .int (a + i * c)
 own i := [(it, .pr (ritP (a + i * c) (n - i) c))]
 src σ := True
 know _ := True
 mono _ _ _ x := x
 next i hi A σ s hh hs _ S := by
  obtain ⟨o, ho, rfl, _⟩ := S.cells _ (.head _)
  refine wpAny_pyNext_range_item ho (by omega) fun h' hit hsb => ?_
  have e1 : a + (i : Int) * c + c = a + ((i + 1 : Nat) : Int) * c := by push_cast; rw [Int.add_mul, Int.one_mul, Int.add_assoc]
  have e2 : (n : Int) - (i : Int) - 1 = (n : Int) - ((i + 1 : Nat) : Int) := by push_cast; omega
  rw [e1, e2] at hit
  obtain ⟨S', kp⟩ := S.turn (c' := .pr (ritP (a + ((i + 1 : Nat) : Int) * c) ((n : Int) - ((i + 1 : Nat) : Int)) c)) .head (fun b o hb e => (hsb.2 b hb).trans e) fun kp => ⟨_, hit, rfl, fun _ _ q => absurd (congrArg Obj.cls q) (by simp)⟩
  exact ⟨_, rfl, .int _ _, S', kp⟩
 stop A σ s hh hs kn S := by
  obtain ⟨o, ho, rfl, _⟩ := S.cells _ (.head _)
  refine wpAny_pyNext_range_end hh ho (by omega) fun h' he => ?_
  obtain ⟨S', kp⟩ := S.drop (σ := σ) he
  exact ⟨rfl, S', kp⟩
theorem IterO_tup {ds : List V} {Q : ∀ it, It g it → Prop} (q : ∀ it t, Q it (itT g it t ds)) : IterO g k σ (.tup ds) Q := fun A r s v S iv => by
 obtain ⟨a, vs, rfl, ht, is⟩ := BP iv
 refine iter_tuple ht ⟨_, itT g _ a ds, rfl, ?_, Keeps.push _ _, iv.mono (Keeps.push _ _), q _ _⟩
 exact S.alloc (σ := []) (τ := σ) (fun _ _ e => Heap.get?_push_of_some _ e) (Nat.le_refl _) ⟨_, Heap.get?_push_size _ rfl, ⟨rfl, rfl⟩, fun _ _ q => absurd (congrArg Obj.cls q) (by simp)⟩
noncomputable def rngP (a b c : Int) (o : Obj) : Prop := ∃ t u v, o = { cls := .type "range", dict := none, data := .fields #[.int a t, .int b u, .int c v], slots := #[] }
theorem rngP_at {a b c : Int} {r : Addr} {h : HS} (S : SGd g σ h) (m : (r, Cell.pr (rngP a b c)) ∈ σ) : ∃ t u v, IsRange h.toHeap r a b c t u v := by
 obtain ⟨o, ho, ⟨t, u, v, rfl⟩, _⟩ := S.cells _ m
 exact ⟨t, u, v, ho⟩
theorem G2 {R τ : Store} {L : Addr} {m : Loc} {a b c : Int} {t u v : Tok} {s : Shared} (S : SGd g (Fm R L m τ) (Hp s)) :
  SGd g (Fm R L m ((s.heap.objs.size, .pr (rngP a b c)) :: τ)) ((Hp s).at (s.heap.push { cls := .type "range", data := .fields #[.int a t, .int b u, .int c v] })) := by
 have S' : SGd g ((R ++ [(L, .ns m)]) ++ τ) (Hp s) := by simpa using S
 have := S'.alloc (a := s.heap.objs.size) (c := .pr (rngP a b c)) (h' := s.heap.push { cls := .type "range", data := .fields #[.int a t, .int b u, .int c v] }) (fun _ _ e => Heap.get?_push_of_some _ e) (Nat.le_refl _)
  ⟨_, Heap.get?_push_size _ rfl, ⟨t, u, v, rfl⟩, fun _ _ q => absurd (congrArg Obj.cls q) (by simp)⟩
 simpa using this
theorem G3 {R τ : Store} {L : Addr} {m : Loc} {n : Int} (q : ∀ r, Q (.ref r) (Fm R L m ((r, .pr (rngP 0 n 1)) :: τ))) : Cl g k (.type "range") [.int n] (Fm R L m τ) Q := fun A r s vs S i => by
 obtain ⟨v, rfl, iv⟩ := G0 i
 obtain ⟨t, rfl⟩ := Ab iv
 exact call_range_1 ⟨.ref _, _, .ref _, G2 S, Keeps.push _ _, q _⟩
theorem Cl_range2 {R τ : Store} {L : Addr} {m : Loc} {a b : Int} (q : ∀ r, Q (.ref r) (Fm R L m ((r, .pr (rngP a b 1)) :: τ))) : Cl g k (.type "range") [.int a, .int b] (Fm R L m τ) Q := fun A r s vs S i => by
 obtain ⟨v, u, rfl, iv, iu⟩ := isS2 i
 obtain ⟨t, rfl⟩ := Ab iv; obtain ⟨t', rfl⟩ := Ab iu
 exact call_range_2 ⟨.ref _, _, .ref _, G2 S, Keeps.push _ _, q _⟩
theorem Cl_range3 {R τ : Store} {L : Addr} {m : Loc} {a b c : Int} (hc : c ≠ 0) (hp : Builtin.divisionGoesByPylong (b - a) c = false) (q : ∀ r, Q (.ref r) (Fm R L m ((r, .pr (rngP a b c)) :: τ))) : Cl g k (.type "range") [.int a, .int b, .int c] (Fm R L m τ) Q := fun A r s vs S i => by
 obtain ⟨v, u, w, rfl, iv, iu, iw⟩ := isS3 i
 obtain ⟨t, rfl⟩ := Ab iv; obtain ⟨t', rfl⟩ := Ab iu; obtain ⟨t'', rfl⟩ := Ab iw
 exact call_range_3 hc ⟨.ref _, _, .ref _, G2 S, Keeps.push _ _, q _⟩ (.inl hp)
theorem CY {a b c : Int} {n : Nat} {r : Addr} {Q : ∀ it, It g it → Prop} (m : (r, Cell.pr (rngP a b c)) ∈ σ) (hsmall : Builtin.Range.small a b c = true) (hn : Builtin.Range.rangeSize a b c = n) (q : ∀ it, Q it (itR g it a c n)) : IterO g k σ (.ref r) Q := fun A rm s v S iv => by
 rw [Ae iv]
 obtain ⟨t, u, v, hr⟩ := rngP_at S m
 refine wpAny_pyIter_range hr hsmall ⟨_, itR g _ a c n, rfl, ?_, Keeps.push _ _, trivial, q _⟩
 refine S.alloc (σ := []) (τ := σ) (fun _ _ e => Heap.get?_push_of_some _ e) (Nat.le_refl _) ⟨_, Heap.get?_push_size _ rfl, ?_, fun _ _ q => absurd (congrArg Obj.cls q) (by simp)⟩
 show _ = _
 rw [hn]; simp
theorem Hd {R τ : Store} {L : Addr} {m : Loc} {ds : List V} (hz : ds.length ≤ sizeLine) (q : ∀ a, Q (.ref a) (Fm R L m ((a, .list ds) :: τ))) : Cl g k (.type "list") [.tup ds] (Fm R L m τ) Q := fun A r s vs S i => by
 obtain ⟨v, rfl, iv⟩ := G0 i
 cases iv with
 | @tup a ws n _ e x =>
  refine call_list_seq a (T := "tuple") (.inr rfl) e rfl rfl (fun h' c' kp e' => ?_) (by rw [List.size_toArray, x.length]; exact hz)
  have S' : SGd g ((R ++ [(L, .ns m)]) ++ τ) (Hp s) := by simpa using S
  have := S'.alloc (a := s.heap.objs.size) (c := .list ds) (h' := h') kp (Nat.le_refl _) ⟨ws, c', e', x.mono (Keeps.of_all kp)⟩
  exact ⟨.ref _, _, .ref _, by simpa using this, Keeps.of_all kp, q _⟩
theorem CB {R τ : Store} {L : Addr} {m : Loc} {ds : List V} {l : Addr} (hl : (l, Cell.list ds) ∈ Fm R L m τ) (hz : ds.length ≤ sizeLine) (q : ∀ a, Q (.ref a) (Fm R L m ((a, .list ds) :: τ))) : Cl g k (.type "list") [.ref l] (Fm R L m τ) Q := fun A r s vs S i => by
 obtain ⟨v, rfl, iv⟩ := G0 i
 rw [Ae iv]
 obtain ⟨ws, n, e, _, x⟩ := Aj S hl
 refine call_list_seq l (T := "list") (.inl rfl) e rfl rfl (fun h' c' kp e' => ?_) (by rw [List.size_toArray, x.length]; exact hz)
 have S' : SGd g ((R ++ [(L, .ns m)]) ++ τ) (Hp s) := by simpa using S
 have := S'.alloc (a := s.heap.objs.size) (c := .list ds) (h' := h') kp (Nat.le_refl _) ⟨ws, c', e', x.mono (Keeps.of_all kp)⟩
 exact ⟨.ref _, _, .ref _, by simpa using this, Keeps.of_all kp, q _⟩
theorem Cl_tupleL {ds : List V} {l : Addr} (hl : (l, Cell.list ds) ∈ σ) (hz : ds.length ≤ sizeLine) (q : Q (.tup ds) σ) : Cl g k (.type "tuple") [.ref l] σ Q := fun A r s vs S i => by
 obtain ⟨v, rfl, iv⟩ := G0 i
 rw [Ae iv]
 obtain ⟨ws, n, e, h, x⟩ := Aj S hl
 refine call_tuple_list h (fun h' kp => ?_) (by rw [List.size_toArray, x.length]; exact hz)
 have kp' : ∀ b o, s.heap.get? b = some o → (h'.push (DP ws 0)).get? b = some o := fun b o e => Heap.get?_push_of_some _ (kp b o e)
 exact ⟨.tup ds, σ, .tup (n := 0) (Heap.get?_push_size _ rfl) (x.mono (Keeps.of_all kp')), S.grow kp', Keeps.of_all kp', q⟩
end
end Mine
namespace Mine
structure BA where
 bd : Addr
 bdd : Addr
 tr : Addr
 trd : Addr
 st : Addr
 std : Addr
 fm : Addr
 fmd : Addr
 kinds : Addr
 spaces : Addr
 names : Addr
 attrs : Addr
 texts : Addr
 parents : Addr
 children : Addr
 contents : Addr
 items : Addr
 fitems : Addr
 modes : Addr
 owners : Addr
 errors : Addr
 rules : Addr
 pending : Addr
structure St where
 kinds : List Str
 spaces : List Str
 names : List Str
 texts : List Str
 attrs : List (List (Str × Str))
 aA : List Addr
 parents : List Int
 children : List (List Int)
 cA : List Addr
 contents : List (Int × Int)
 opn : List Int
 fmt : List Int
 mode : Str
 original : Str
 form : Int
 owners : List (Int × Int)
 fs : Bool
 quirks : Str
 errors : List (Str × Str)
 wish : Str
 skip : Bool
 ack : Bool
noncomputable def prV (p : Str × Str) : V := .tup [.str p.1, .str p.2]
noncomputable def dcV (p : Int × Int) : Int × V := (p.1, .int p.2)
noncomputable def bF (B : BA) (s : St) : List (Str × V) := [
 ((zs "rules"), .ref B.rules),
 ((zs "tree"), .ref B.tr),
 ((zs "stack"), .ref B.st),
 ((zs "formatting"), .ref B.fm),
 ((zs "mode"), .str s.mode),
 ((zs "original"), .str s.original),
 ((zs "modes"), .ref B.modes),
 ((zs "head"), .int (-1)),
 ((zs "form"), .int s.form),
 ((zs "owners"), .ref B.owners),
 ((zs "is_frameset_ok"), .bool s.fs),
 ((zs "is_scripting"), .bool false),
 ((zs "is_foster"), .bool false),
 ((zs "context"), .int (-1)),
 ((zs "quirks"), .str s.quirks),
 ((zs "errors"), .ref B.errors),
 ((zs "pending"), .ref B.pending),
 ((zs "wish"), .str s.wish),
 ((zs "is_skipping"), .bool s.skip),
 ((zs "is_acknowledged"), .bool s.ack),
 ((zs "is_done"), .bool false)]
noncomputable def tF (B : BA) : List (Str × V) := [
 ((zs "kinds"), .ref B.kinds),
 ((zs "spaces"), .ref B.spaces),
 ((zs "names"), .ref B.names),
 ((zs "attrs"), .ref B.attrs),
 ((zs "texts"), .ref B.texts),
 ((zs "parents"), .ref B.parents),
 ((zs "children"), .ref B.children),
 ((zs "contents"), .ref B.contents)]
noncomputable def sF (B : BA) : List (Str × V) := [((zs "tree"), .ref B.tr), ((zs "items"), .ref B.items)]
noncomputable def fF (B : BA) : List (Str × V) := [((zs "tree"), .ref B.tr), ((zs "items"), .ref B.fitems)]
noncomputable def core (B : BA) (s : St) : Store := [
 (B.bd, .inst 636 B.bdd),
 (B.bdd, .nsd (bF B s)),
 (B.tr, .inst 558 B.trd),
 (B.trd, .nsd (tF B)),
 (B.st, .inst 150 B.std),
 (B.std, .nsd (sF B)),
 (B.fm, .inst 434 B.fmd),
 (B.fmd, .nsd (fF B)),
 (B.kinds, .list (s.kinds.map V.str)),
 (B.spaces, .list (s.spaces.map V.str)),
 (B.names, .list (s.names.map V.str)),
 (B.attrs, .list (s.aA.map V.ref)),
 (B.texts, .list (s.texts.map V.str)),
 (B.parents, .list (s.parents.map V.int)),
 (B.children, .list (s.cA.map V.ref)),
 (B.contents, .idict (s.contents.map dcV)),
 (B.items, .list (s.opn.map V.int)),
 (B.fitems, .list (s.fmt.map V.int)),
 (B.modes, .list []),
 (B.owners, .idict (s.owners.map dcV)),
 (B.errors, .list (s.errors.map prV))]
noncomputable def aC (s : St) : Store := List.zipWith (fun a ps => (a, Cell.list (ps.map prV))) s.aA s.attrs
noncomputable def cC (s : St) : Store := List.zipWith (fun a ps => (a, Cell.list (ps.map V.int))) s.cA s.children
noncomputable def AE (B : BA) (s : St) : Store := core B s ++ (aC s ++ cC s)
section
variable {B : BA} {s : St} {L : Addr} {m : Loc} {τ : Store}
theorem At {p : Addr × Cell} (h : p ∈ core B s) (σ : Store) : p ∈ AE B s ++ σ := List.mem_append_left _ (List.mem_append_left _ h)
theorem Ax {s' : St} {a : Addr} {c c' : Cell} (h : Upd1 a c c' (core B s) (core B s')) (ha : aC s' = aC s) (hc : cC s' = cC s) (σ : Store) : Upd1 a c c' (AE B s ++ σ) (AE B s' ++ σ) := by
 unfold AE
 rw [ha, hc]
 exact (h.append_right _).append_right _
theorem Bv (σ : Store) : (B.bd, Cell.inst 636 B.bdd) ∈ AE B s ++ σ := At (.head _) σ
theorem Bh (σ : Store) : (B.bdd, Cell.nsd (bF B s)) ∈ AE B s ++ σ := At (.tail _ (.head _)) σ
theorem DQ (σ : Store) : (B.tr, Cell.inst 558 B.trd) ∈ AE B s ++ σ := At (.tail _ (.tail _ (.head _))) σ
theorem Bw (σ : Store) : (B.trd, Cell.nsd (tF B)) ∈ AE B s ++ σ := At (.tail _ (.tail _ (.tail _ (.head _)))) σ
theorem Cd (σ : Store) : (B.st, Cell.inst 150 B.std) ∈ AE B s ++ σ := At (.tail _ (.tail _ (.tail _ (.tail _ (.head _))))) σ
theorem Ba (σ : Store) : (B.std, Cell.nsd (sF B)) ∈ AE B s ++ σ := At (.tail _ (.tail _ (.tail _ (.tail _ (.tail _ (.head _)))))) σ
theorem m_fm (σ : Store) : (B.fm, Cell.inst 434 B.fmd) ∈ AE B s ++ σ := At (.tail _ (.tail _ (.tail _ (.tail _ (.tail _ (.tail _ (.head _))))))) σ
theorem m_fmd (σ : Store) : (B.fmd, Cell.nsd (fF B)) ∈ AE B s ++ σ := At (.tail _ (.tail _ (.tail _ (.tail _ (.tail _ (.tail _ (.tail _ (.head _)))))))) σ
theorem FH (σ : Store) : (B.kinds, Cell.list (s.kinds.map V.str)) ∈ AE B s ++ σ := At (.tail _ (.tail _ (.tail _ (.tail _ (.tail _ (.tail _ (.tail _ (.tail _ (.head _))))))))) σ
theorem FI (σ : Store) : (B.spaces, Cell.list (s.spaces.map V.str)) ∈ AE B s ++ σ := At (.tail _ (.tail _ (.tail _ (.tail _ (.tail _ (.tail _ (.tail _ (.tail _ (.tail _ (.head _)))))))))) σ
theorem HL (σ : Store) : (B.names, Cell.list (s.names.map V.str)) ∈ AE B s ++ σ := At (.tail _ (.tail _ (.tail _ (.tail _ (.tail _ (.tail _ (.tail _ (.tail _ (.tail _ (.tail _ (.head _))))))))))) σ
theorem HM (σ : Store) : (B.attrs, Cell.list (s.aA.map V.ref)) ∈ AE B s ++ σ := At (.tail _ (.tail _ (.tail _ (.tail _ (.tail _ (.tail _ (.tail _ (.tail _ (.tail _ (.tail _ (.tail _ (.head _)))))))))))) σ
theorem m_texts (σ : Store) : (B.texts, Cell.list (s.texts.map V.str)) ∈ AE B s ++ σ := At (.tail _ (.tail _ (.tail _ (.tail _ (.tail _ (.tail _ (.tail _ (.tail _ (.tail _ (.tail _ (.tail _ (.tail _ (.head _))))))))))))) σ
theorem EV (σ : Store) : (B.parents, Cell.list (s.parents.map V.int)) ∈ AE B s ++ σ := At (.tail _ (.tail _ (.tail _ (.tail _ (.tail _ (.tail _ (.tail _ (.tail _ (.tail _ (.tail _ (.tail _ (.tail _ (.tail _ (.head _)))))))))))))) σ
theorem Dh (σ : Store) : (B.children, Cell.list (s.cA.map V.ref)) ∈ AE B s ++ σ := At (.tail _ (.tail _ (.tail _ (.tail _ (.tail _ (.tail _ (.tail _ (.tail _ (.tail _ (.tail _ (.tail _ (.tail _ (.tail _ (.tail _ (.head _))))))))))))))) σ
theorem CR (σ : Store) : (B.contents, Cell.idict (s.contents.map dcV)) ∈ AE B s ++ σ := At (.tail _ (.tail _ (.tail _ (.tail _ (.tail _ (.tail _ (.tail _ (.tail _ (.tail _ (.tail _ (.tail _ (.tail _ (.tail _ (.tail _ (.tail _ (.head _)))))))))))))))) σ
theorem BQ (σ : Store) : (B.items, Cell.list (s.opn.map V.int)) ∈ AE B s ++ σ := At (.tail _ (.tail _ (.tail _ (.tail _ (.tail _ (.tail _ (.tail _ (.tail _ (.tail _ (.tail _ (.tail _ (.tail _ (.tail _ (.tail _ (.tail _ (.tail _ (.head _))))))))))))))))) σ
theorem CD (σ : Store) : (B.fitems, Cell.list (s.fmt.map V.int)) ∈ AE B s ++ σ := At (.tail _ (.tail _ (.tail _ (.tail _ (.tail _ (.tail _ (.tail _ (.tail _ (.tail _ (.tail _ (.tail _ (.tail _ (.tail _ (.tail _ (.tail _ (.tail _ (.tail _ (.head _)))))))))))))))))) σ
theorem m_modes (σ : Store) : (B.modes, Cell.list []) ∈ AE B s ++ σ := At (.tail _ (.tail _ (.tail _ (.tail _ (.tail _ (.tail _ (.tail _ (.tail _ (.tail _ (.tail _ (.tail _ (.tail _ (.tail _ (.tail _ (.tail _ (.tail _ (.tail _ (.tail _ (.head _))))))))))))))))))) σ
theorem m_owners (σ : Store) : (B.owners, Cell.idict (s.owners.map dcV)) ∈ AE B s ++ σ := At (.tail _ (.tail _ (.tail _ (.tail _ (.tail _ (.tail _ (.tail _ (.tail _ (.tail _ (.tail _ (.tail _ (.tail _ (.tail _ (.tail _ (.tail _ (.tail _ (.tail _ (.tail _ (.tail _ (.head _)))))))))))))))))))) σ
theorem m_errors (σ : Store) : (B.errors, Cell.list (s.errors.map prV)) ∈ AE B s ++ σ := At (.tail _ (.tail _ (.tail _ (.tail _ (.tail _ (.tail _ (.tail _ (.tail _ (.tail _ (.tail _ (.tail _ (.tail _ (.tail _ (.tail _ (.tail _ (.tail _ (.tail _ (.tail _ (.tail _ (.tail _ (.head _))))))))))))))))))))) σ
end
section
variable (P : Params)
theorem BU : ([(zs "rules"), (zs "tree"), (zs "stack"), (zs "formatting"), (zs "mode"), (zs "original"), (zs "modes"), (zs "head"), (zs "form"), (zs "owners"), (zs "is_frameset_ok"), (zs "is_scripting"), (zs "is_foster"), (zs "context"), (zs "quirks"), (zs "errors"), (zs "pending"), (zs "wish"), (zs "is_skipping"), (zs "is_acknowledged"), (zs "is_done")] : List Str).all (BG (gK P) 636) = true := by kernel_rfl
theorem He : BG (gK P) 636 (zs "tree") = true := List.all_eq_true.mp (BU P) _ (.tail _ (.head _))
theorem okB_stack : BG (gK P) 636 (zs "stack") = true := List.all_eq_true.mp (BU P) _ (.tail _ (.tail _ (.head _)))
theorem Hf : BG (gK P) 636 (zs "formatting") = true := List.all_eq_true.mp (BU P) _ (.tail _ (.tail _ (.tail _ (.head _))))
theorem okB_mode : BG (gK P) 636 (zs "mode") = true := List.all_eq_true.mp (BU P) _ (.tail _ (.tail _ (.tail _ (.tail _ (.head _)))))
theorem okB_original : BG (gK P) 636 (zs "original") = true := List.all_eq_true.mp (BU P) _ (.tail _ (.tail _ (.tail _ (.tail _ (.tail _ (.head _))))))
theorem okB_modes : BG (gK P) 636 (zs "modes") = true := List.all_eq_true.mp (BU P) _ (.tail _ (.tail _ (.tail _ (.tail _ (.tail _ (.tail _ (.head _)))))))
theorem okB_form : BG (gK P) 636 (zs "form") = true := List.all_eq_true.mp (BU P) _ (.tail _ (.tail _ (.tail _ (.tail _ (.tail _ (.tail _ (.tail _ (.tail _ (.head _)))))))))
theorem okB_owners : BG (gK P) 636 (zs "owners") = true := List.all_eq_true.mp (BU P) _ (.tail _ (.tail _ (.tail _ (.tail _ (.tail _ (.tail _ (.tail _ (.tail _ (.tail _ (.head _))))))))))
theorem Eu : BG (gK P) 636 (zs "is_frameset_ok") = true := List.all_eq_true.mp (BU P) _ (.tail _ (.tail _ (.tail _ (.tail _ (.tail _ (.tail _ (.tail _ (.tail _ (.tail _ (.tail _ (.head _)))))))))))
theorem okB_is_foster : BG (gK P) 636 (zs "is_foster") = true := List.all_eq_true.mp (BU P) _ (.tail _ (.tail _ (.tail _ (.tail _ (.tail _ (.tail _ (.tail _ (.tail _ (.tail _ (.tail _ (.tail _ (.tail _ (.head _)))))))))))))
theorem okB_context : BG (gK P) 636 (zs "context") = true := List.all_eq_true.mp (BU P) _ (.tail _ (.tail _ (.tail _ (.tail _ (.tail _ (.tail _ (.tail _ (.tail _ (.tail _ (.tail _ (.tail _ (.tail _ (.tail _ (.head _))))))))))))))
theorem okB_quirks : BG (gK P) 636 (zs "quirks") = true := List.all_eq_true.mp (BU P) _ (.tail _ (.tail _ (.tail _ (.tail _ (.tail _ (.tail _ (.tail _ (.tail _ (.tail _ (.tail _ (.tail _ (.tail _ (.tail _ (.tail _ (.head _)))))))))))))))
theorem okB_errors : BG (gK P) 636 (zs "errors") = true := List.all_eq_true.mp (BU P) _ (.tail _ (.tail _ (.tail _ (.tail _ (.tail _ (.tail _ (.tail _ (.tail _ (.tail _ (.tail _ (.tail _ (.tail _ (.tail _ (.tail _ (.tail _ (.head _))))))))))))))))
theorem okB_wish : BG (gK P) 636 (zs "wish") = true := List.all_eq_true.mp (BU P) _ (.tail _ (.tail _ (.tail _ (.tail _ (.tail _ (.tail _ (.tail _ (.tail _ (.tail _ (.tail _ (.tail _ (.tail _ (.tail _ (.tail _ (.tail _ (.tail _ (.tail _ (.head _))))))))))))))))))
theorem Gq : BG (gK P) 636 (zs "is_skipping") = true := List.all_eq_true.mp (BU P) _ (.tail _ (.tail _ (.tail _ (.tail _ (.tail _ (.tail _ (.tail _ (.tail _ (.tail _ (.tail _ (.tail _ (.tail _ (.tail _ (.tail _ (.tail _ (.tail _ (.tail _ (.tail _ (.head _)))))))))))))))))))
theorem Eb : BG (gK P) 636 (zs "is_acknowledged") = true := List.all_eq_true.mp (BU P) _ (.tail _ (.tail _ (.tail _ (.tail _ (.tail _ (.tail _ (.tail _ (.tail _ (.tail _ (.tail _ (.tail _ (.tail _ (.tail _ (.tail _ (.tail _ (.tail _ (.tail _ (.tail _ (.tail _ (.head _))))))))))))))))))))
theorem DE : ([(zs "kinds"), (zs "spaces"), (zs "names"), (zs "attrs"), (zs "texts"), (zs "parents"), (zs "children"), (zs "contents")] : List Str).all (BG (gK P) 558) = true := by kernel_rfl
theorem G4 : BG (gK P) 558 (zs "kinds") = true := List.all_eq_true.mp (DE P) _ (.head _)
theorem Hg : BG (gK P) 558 (zs "spaces") = true := List.all_eq_true.mp (DE P) _ (.tail _ (.head _))
theorem okT_names : BG (gK P) 558 (zs "names") = true := List.all_eq_true.mp (DE P) _ (.tail _ (.tail _ (.head _)))
theorem okT_attrs : BG (gK P) 558 (zs "attrs") = true := List.all_eq_true.mp (DE P) _ (.tail _ (.tail _ (.tail _ (.head _))))
theorem okT_texts : BG (gK P) 558 (zs "texts") = true := List.all_eq_true.mp (DE P) _ (.tail _ (.tail _ (.tail _ (.tail _ (.head _)))))
theorem GT : BG (gK P) 558 (zs "parents") = true := List.all_eq_true.mp (DE P) _ (.tail _ (.tail _ (.tail _ (.tail _ (.tail _ (.head _))))))
theorem FJ : BG (gK P) 558 (zs "children") = true := List.all_eq_true.mp (DE P) _ (.tail _ (.tail _ (.tail _ (.tail _ (.tail _ (.tail _ (.head _)))))))
theorem okT_contents : BG (gK P) 558 (zs "contents") = true := List.all_eq_true.mp (DE P) _ (.tail _ (.tail _ (.tail _ (.tail _ (.tail _ (.tail _ (.tail _ (.head _))))))))
theorem okS_all : ([(zs "tree"), (zs "items")] : List Str).all (BG (gK P) 150) = true := by kernel_rfl
theorem okS_tree : BG (gK P) 150 (zs "tree") = true := List.all_eq_true.mp (okS_all P) _ (.head _)
theorem okS_items : BG (gK P) 150 (zs "items") = true := List.all_eq_true.mp (okS_all P) _ (.tail _ (.head _))
theorem okF_all : ([(zs "tree"), (zs "items")] : List Str).all (BG (gK P) 434) = true := by kernel_rfl
theorem okF_items : BG (gK P) 434 (zs "items") = true := List.all_eq_true.mp (okF_all P) _ (.tail _ (.head _))
theorem BD : ([(zs "rules"), (zs "tree"), (zs "stack"), (zs "formatting"), (zs "mode"), (zs "original"), (zs "modes"), (zs "head"), (zs "form"), (zs "owners"), (zs "is_frameset_ok"), (zs "is_scripting"), (zs "is_foster"), (zs "context"), (zs "quirks"), (zs "errors"), (zs "pending"), (zs "wish"), (zs "is_skipping"), (zs "is_acknowledged"), (zs "is_done")] : List Str).all (BM (gK P) 636) = true := by kernel_rfl
theorem osB_rules : BM (gK P) 636 (zs "rules") = true := List.all_eq_true.mp (BD P) _ (.head _)
theorem osB_tree : BM (gK P) 636 (zs "tree") = true := List.all_eq_true.mp (BD P) _ (.tail _ (.head _))
theorem osB_stack : BM (gK P) 636 (zs "stack") = true := List.all_eq_true.mp (BD P) _ (.tail _ (.tail _ (.head _)))
theorem Hh : BM (gK P) 636 (zs "formatting") = true := List.all_eq_true.mp (BD P) _ (.tail _ (.tail _ (.tail _ (.head _))))
theorem osB_mode : BM (gK P) 636 (zs "mode") = true := List.all_eq_true.mp (BD P) _ (.tail _ (.tail _ (.tail _ (.tail _ (.head _)))))
theorem FK : BM (gK P) 636 (zs "original") = true := List.all_eq_true.mp (BD P) _ (.tail _ (.tail _ (.tail _ (.tail _ (.tail _ (.head _))))))
theorem osB_modes : BM (gK P) 636 (zs "modes") = true := List.all_eq_true.mp (BD P) _ (.tail _ (.tail _ (.tail _ (.tail _ (.tail _ (.tail _ (.head _)))))))
theorem osB_head : BM (gK P) 636 (zs "head") = true := List.all_eq_true.mp (BD P) _ (.tail _ (.tail _ (.tail _ (.tail _ (.tail _ (.tail _ (.tail _ (.head _))))))))
theorem osB_form : BM (gK P) 636 (zs "form") = true := List.all_eq_true.mp (BD P) _ (.tail _ (.tail _ (.tail _ (.tail _ (.tail _ (.tail _ (.tail _ (.tail _ (.head _)))))))))
theorem osB_owners : BM (gK P) 636 (zs "owners") = true := List.all_eq_true.mp (BD P) _ (.tail _ (.tail _ (.tail _ (.tail _ (.tail _ (.tail _ (.tail _ (.tail _ (.tail _ (.head _))))))))))
theorem Cx : BM (gK P) 636 (zs "is_frameset_ok") = true := List.all_eq_true.mp (BD P) _ (.tail _ (.tail _ (.tail _ (.tail _ (.tail _ (.tail _ (.tail _ (.tail _ (.tail _ (.tail _ (.head _)))))))))))
theorem G5 : BM (gK P) 636 (zs "is_scripting") = true := List.all_eq_true.mp (BD P) _ (.tail _ (.tail _ (.tail _ (.tail _ (.tail _ (.tail _ (.tail _ (.tail _ (.tail _ (.tail _ (.tail _ (.head _))))))))))))
theorem osB_is_foster : BM (gK P) 636 (zs "is_foster") = true := List.all_eq_true.mp (BD P) _ (.tail _ (.tail _ (.tail _ (.tail _ (.tail _ (.tail _ (.tail _ (.tail _ (.tail _ (.tail _ (.tail _ (.tail _ (.head _)))))))))))))
theorem osB_context : BM (gK P) 636 (zs "context") = true := List.all_eq_true.mp (BD P) _ (.tail _ (.tail _ (.tail _ (.tail _ (.tail _ (.tail _ (.tail _ (.tail _ (.tail _ (.tail _ (.tail _ (.tail _ (.tail _ (.head _))))))))))))))
theorem Hi : BM (gK P) 636 (zs "quirks") = true := List.all_eq_true.mp (BD P) _ (.tail _ (.tail _ (.tail _ (.tail _ (.tail _ (.tail _ (.tail _ (.tail _ (.tail _ (.tail _ (.tail _ (.tail _ (.tail _ (.tail _ (.head _)))))))))))))))
theorem osB_errors : BM (gK P) 636 (zs "errors") = true := List.all_eq_true.mp (BD P) _ (.tail _ (.tail _ (.tail _ (.tail _ (.tail _ (.tail _ (.tail _ (.tail _ (.tail _ (.tail _ (.tail _ (.tail _ (.tail _ (.tail _ (.tail _ (.head _))))))))))))))))
theorem osB_pending : BM (gK P) 636 (zs "pending") = true := List.all_eq_true.mp (BD P) _ (.tail _ (.tail _ (.tail _ (.tail _ (.tail _ (.tail _ (.tail _ (.tail _ (.tail _ (.tail _ (.tail _ (.tail _ (.tail _ (.tail _ (.tail _ (.tail _ (.head _)))))))))))))))))
theorem osB_wish : BM (gK P) 636 (zs "wish") = true := List.all_eq_true.mp (BD P) _ (.tail _ (.tail _ (.tail _ (.tail _ (.tail _ (.tail _ (.tail _ (.tail _ (.tail _ (.tail _ (.tail _ (.tail _ (.tail _ (.tail _ (.tail _ (.tail _ (.tail _ (.head _))))))))))))))))))
theorem Dr : BM (gK P) 636 (zs "is_skipping") = true := List.all_eq_true.mp (BD P) _ (.tail _ (.tail _ (.tail _ (.tail _ (.tail _ (.tail _ (.tail _ (.tail _ (.tail _ (.tail _ (.tail _ (.tail _ (.tail _ (.tail _ (.tail _ (.tail _ (.tail _ (.tail _ (.head _)))))))))))))))))))
theorem Cj : BM (gK P) 636 (zs "is_acknowledged") = true := List.all_eq_true.mp (BD P) _ (.tail _ (.tail _ (.tail _ (.tail _ (.tail _ (.tail _ (.tail _ (.tail _ (.tail _ (.tail _ (.tail _ (.tail _ (.tail _ (.tail _ (.tail _ (.tail _ (.tail _ (.tail _ (.tail _ (.head _))))))))))))))))))))
theorem osB_is_done : BM (gK P) 636 (zs "is_done") = true := List.all_eq_true.mp (BD P) _ (.tail _ (.tail _ (.tail _ (.tail _ (.tail _ (.tail _ (.tail _ (.tail _ (.tail _ (.tail _ (.tail _ (.tail _ (.tail _ (.tail _ (.tail _ (.tail _ (.tail _ (.tail _ (.tail _ (.tail _ (.head _)))))))))))))))))))))
theorem DF : BZ (gK P) 150 (zs "push") 70 = true := by kernel_rfl
theorem CS : BZ (gK P) 150 (zs "pop") 77 = true := by kernel_rfl
theorem CZ : BZ (gK P) 150 (zs "current") 84 = true := by kernel_rfl
theorem DG : BZ (gK P) 150 (zs "many") 91 = true := by kernel_rfl
theorem G6 : BZ (gK P) 150 (zs "has") 98 = true := by kernel_rfl
theorem BE : BZ (gK P) 150 (zs "name") 126 = true := by kernel_rfl
theorem CO : BZ (gK P) 150 (zs "has_name") 133 = true := by kernel_rfl
theorem B1 : BZ (gK P) 150 (zs "pop_until") 140 = true := by kernel_rfl
theorem E6 : BZ (gK P) 558 (zs "add") 468 = true := by kernel_rfl
theorem Ce : BZ (gK P) 558 (zs "element") 477 = true := by kernel_rfl
theorem E7 : BZ (gK P) 558 (zs "insert") 506 = true := by kernel_rfl
theorem E8 : BZ (gK P) 558 (zs "append") 513 = true := by kernel_rfl
theorem Hj : BZ (gK P) 558 (zs "remove") 520 = true := by kernel_rfl
theorem ok_Tree_value : BZ (gK P) 558 (zs "value") 548 = true := by kernel_rfl
theorem Ds : BZ (gK P) 558 (zs "is_html") 555 = true := by kernel_rfl
theorem BW : BZ (gK P) 636 (zs "error") 591 = true := by kernel_rfl
theorem DR : BZ (gK P) 636 (zs "to") 598 = true := by kernel_rfl
theorem mk_OpenStack : HZ (gK P) 150 63 = true := by kernel_rfl
theorem mk_Formatting : HZ (gK P) 434 368 = true := by kernel_rfl
theorem mk_Tree : HZ (gK P) 558 459 = true := by kernel_rfl
theorem mk_Builder : HZ (gK P) 636 584 = true := by kernel_rfl
end
section
variable {g : G} {k : Nat} {B : BA} {s : St} {σ : Store} {Q : V → Store → Prop}
theorem CE (q : Q (.ref B.tr) (AE B s ++ σ)) : O1 g k Is (AE B s ++ σ) (fun v => getAttr v (zs "tree") true) (.ref B.bd) Q := Az (Bv σ) (Bh σ) (He _) rfl rfl q
theorem Ai (q : Q (.ref B.st) (AE B s ++ σ)) : O1 g k Is (AE B s ++ σ) (fun v => getAttr v (zs "stack") true) (.ref B.bd) Q := Az (Bv σ) (Bh σ) (okB_stack _) rfl rfl q
theorem Bj (q : Q (.ref B.fm) (AE B s ++ σ)) : O1 g k Is (AE B s ++ σ) (fun v => getAttr v (zs "formatting") true) (.ref B.bd) Q := Az (Bv σ) (Bh σ) (Hf _) rfl rfl q
theorem Hk (q : Q (.str s.mode) (AE B s ++ σ)) : O1 g k Is (AE B s ++ σ) (fun v => getAttr v (zs "mode") true) (.ref B.bd) Q := Az (Bv σ) (Bh σ) (okB_mode _) rfl rfl q
theorem A_b_original (q : Q (.str s.original) (AE B s ++ σ)) : O1 g k Is (AE B s ++ σ) (fun v => getAttr v (zs "original") true) (.ref B.bd) Q := Az (Bv σ) (Bh σ) (okB_original _) rfl rfl q
theorem A_b_modes (q : Q (.ref B.modes) (AE B s ++ σ)) : O1 g k Is (AE B s ++ σ) (fun v => getAttr v (zs "modes") true) (.ref B.bd) Q := Az (Bv σ) (Bh σ) (okB_modes _) rfl rfl q
theorem Cy (q : Q (.int s.form) (AE B s ++ σ)) : O1 g k Is (AE B s ++ σ) (fun v => getAttr v (zs "form") true) (.ref B.bd) Q := Az (Bv σ) (Bh σ) (okB_form _) rfl rfl q
theorem Hl (q : Q (.ref B.owners) (AE B s ++ σ)) : O1 g k Is (AE B s ++ σ) (fun v => getAttr v (zs "owners") true) (.ref B.bd) Q := Az (Bv σ) (Bh σ) (okB_owners _) rfl rfl q
theorem Ev (q : Q (.bool s.fs) (AE B s ++ σ)) : O1 g k Is (AE B s ++ σ) (fun v => getAttr v (zs "is_frameset_ok") true) (.ref B.bd) Q := Az (Bv σ) (Bh σ) (Eu _) rfl rfl q
theorem A_b_is_foster (q : Q (.bool false) (AE B s ++ σ)) : O1 g k Is (AE B s ++ σ) (fun v => getAttr v (zs "is_foster") true) (.ref B.bd) Q := Az (Bv σ) (Bh σ) (okB_is_foster _) rfl rfl q
theorem A_b_context (q : Q (.int (-1)) (AE B s ++ σ)) : O1 g k Is (AE B s ++ σ) (fun v => getAttr v (zs "context") true) (.ref B.bd) Q := Az (Bv σ) (Bh σ) (okB_context _) rfl rfl q
theorem A_b_quirks (q : Q (.str s.quirks) (AE B s ++ σ)) : O1 g k Is (AE B s ++ σ) (fun v => getAttr v (zs "quirks") true) (.ref B.bd) Q := Az (Bv σ) (Bh σ) (okB_quirks _) rfl rfl q
theorem Hm (q : Q (.ref B.errors) (AE B s ++ σ)) : O1 g k Is (AE B s ++ σ) (fun v => getAttr v (zs "errors") true) (.ref B.bd) Q := Az (Bv σ) (Bh σ) (okB_errors _) rfl rfl q
theorem A_b_wish (q : Q (.str s.wish) (AE B s ++ σ)) : O1 g k Is (AE B s ++ σ) (fun v => getAttr v (zs "wish") true) (.ref B.bd) Q := Az (Bv σ) (Bh σ) (okB_wish _) rfl rfl q
theorem Gr (q : Q (.bool s.skip) (AE B s ++ σ)) : O1 g k Is (AE B s ++ σ) (fun v => getAttr v (zs "is_skipping") true) (.ref B.bd) Q := Az (Bv σ) (Bh σ) (Gq _) rfl rfl q
theorem Ec (q : Q (.bool s.ack) (AE B s ++ σ)) : O1 g k Is (AE B s ++ σ) (fun v => getAttr v (zs "is_acknowledged") true) (.ref B.bd) Q := Az (Bv σ) (Bh σ) (Eb _) rfl rfl q
theorem DW (q : Q (.ref B.kinds) (AE B s ++ σ)) : O1 g k Is (AE B s ++ σ) (fun v => getAttr v (zs "kinds") true) (.ref B.tr) Q := Az (DQ σ) (Bw σ) (G4 _) rfl rfl q
theorem Bk (q : Q (.ref B.spaces) (AE B s ++ σ)) : O1 g k Is (AE B s ++ σ) (fun v => getAttr v (zs "spaces") true) (.ref B.tr) Q := Az (DQ σ) (Bw σ) (Hg _) rfl rfl q
theorem Be (q : Q (.ref B.names) (AE B s ++ σ)) : O1 g k Is (AE B s ++ σ) (fun v => getAttr v (zs "names") true) (.ref B.tr) Q := Az (DQ σ) (Bw σ) (okT_names _) rfl rfl q
theorem DX (q : Q (.ref B.attrs) (AE B s ++ σ)) : O1 g k Is (AE B s ++ σ) (fun v => getAttr v (zs "attrs") true) (.ref B.tr) Q := Az (DQ σ) (Bw σ) (okT_attrs _) rfl rfl q
theorem A_t_texts (q : Q (.ref B.texts) (AE B s ++ σ)) : O1 g k Is (AE B s ++ σ) (fun v => getAttr v (zs "texts") true) (.ref B.tr) Q := Az (DQ σ) (Bw σ) (okT_texts _) rfl rfl q
theorem Bl (q : Q (.ref B.parents) (AE B s ++ σ)) : O1 g k Is (AE B s ++ σ) (fun v => getAttr v (zs "parents") true) (.ref B.tr) Q := Az (DQ σ) (Bw σ) (GT _) rfl rfl q
theorem CF (q : Q (.ref B.children) (AE B s ++ σ)) : O1 g k Is (AE B s ++ σ) (fun v => getAttr v (zs "children") true) (.ref B.tr) Q := Az (DQ σ) (Bw σ) (FJ _) rfl rfl q
theorem Bq (q : Q (.ref B.contents) (AE B s ++ σ)) : O1 g k Is (AE B s ++ σ) (fun v => getAttr v (zs "contents") true) (.ref B.tr) Q := Az (DQ σ) (Bw σ) (okT_contents _) rfl rfl q
theorem FL (q : Q (.ref B.tr) (AE B s ++ σ)) : O1 g k Is (AE B s ++ σ) (fun v => getAttr v (zs "tree") true) (.ref B.st) Q := Az (Cd σ) (Ba σ) (okS_tree _) rfl rfl q
theorem B2 (q : Q (.ref B.items) (AE B s ++ σ)) : O1 g k Is (AE B s ++ σ) (fun v => getAttr v (zs "items") true) (.ref B.st) Q := Az (Cd σ) (Ba σ) (okS_items _) rfl rfl q
theorem Bf (q : Q (.ref B.fitems) (AE B s ++ σ)) : O1 g k Is (AE B s ++ σ) (fun v => getAttr v (zs "items") true) (.ref B.fm) Q := Az (m_fm σ) (m_fmd σ) (okF_items _) rfl rfl q
theorem p_b_mode (x : Str) : Es (zs "mode") (.str x) (bF B s) = bF B { s with mode := x } := by kernel_rfl
theorem S_b_mode {x : Str} {Q : Unit → Store → Prop} (q : Q () (AE B { s with mode := x } ++ σ)) : O2 g k EqR (AE B s ++ σ) (fun ov v => setAttr ov (zs "mode") v) (.ref B.bd) (.str x) Q :=
 Bp (es := bF B s) (Bv σ) (by rw [p_b_mode]; exact Ax (B := B) (s := s) (s' := { s with mode := x }) (.tail .head) rfl rfl σ) (osB_mode _) q (Nat.le_of_ble_eq_true rfl)
theorem p_b_original (x : Str) : Es (zs "original") (.str x) (bF B s) = bF B { s with original := x } := by kernel_rfl
theorem S_b_original {x : Str} {Q : Unit → Store → Prop} (q : Q () (AE B { s with original := x } ++ σ)) : O2 g k EqR (AE B s ++ σ) (fun ov v => setAttr ov (zs "original") v) (.ref B.bd) (.str x) Q :=
 Bp (es := bF B s) (Bv σ) (by rw [p_b_original]; exact Ax (B := B) (s := s) (s' := { s with original := x }) (.tail .head) rfl rfl σ) (FK _) q (Nat.le_of_ble_eq_true rfl)
theorem p_b_form (x : Int) : Es (zs "form") (.int x) (bF B s) = bF B { s with form := x } := by kernel_rfl
theorem S_b_form {x : Int} {Q : Unit → Store → Prop} (q : Q () (AE B { s with form := x } ++ σ)) : O2 g k EqR (AE B s ++ σ) (fun ov v => setAttr ov (zs "form") v) (.ref B.bd) (.int x) Q :=
 Bp (es := bF B s) (Bv σ) (by rw [p_b_form]; exact Ax (B := B) (s := s) (s' := { s with form := x }) (.tail .head) rfl rfl σ) (osB_form _) q (Nat.le_of_ble_eq_true rfl)
theorem Ew (x : Bool) : Es (zs "is_frameset_ok") (.bool x) (bF B s) = bF B { s with fs := x } := by kernel_rfl
theorem Ex {x : Bool} {Q : Unit → Store → Prop} (q : Q () (AE B { s with fs := x } ++ σ)) : O2 g k EqR (AE B s ++ σ) (fun ov v => setAttr ov (zs "is_frameset_ok") v) (.ref B.bd) (.bool x) Q :=
 Bp (es := bF B s) (Bv σ) (by rw [Ew]; exact Ax (B := B) (s := s) (s' := { s with fs := x }) (.tail .head) rfl rfl σ) (Cx _) q (Nat.le_of_ble_eq_true rfl)
theorem p_b_quirks (x : Str) : Es (zs "quirks") (.str x) (bF B s) = bF B { s with quirks := x } := by kernel_rfl
theorem S_b_quirks {x : Str} {Q : Unit → Store → Prop} (q : Q () (AE B { s with quirks := x } ++ σ)) : O2 g k EqR (AE B s ++ σ) (fun ov v => setAttr ov (zs "quirks") v) (.ref B.bd) (.str x) Q :=
 Bp (es := bF B s) (Bv σ) (by rw [p_b_quirks]; exact Ax (B := B) (s := s) (s' := { s with quirks := x }) (.tail .head) rfl rfl σ) (Hi _) q (Nat.le_of_ble_eq_true rfl)
theorem p_b_wish (x : Str) : Es (zs "wish") (.str x) (bF B s) = bF B { s with wish := x } := by kernel_rfl
theorem S_b_wish {x : Str} {Q : Unit → Store → Prop} (q : Q () (AE B { s with wish := x } ++ σ)) : O2 g k EqR (AE B s ++ σ) (fun ov v => setAttr ov (zs "wish") v) (.ref B.bd) (.str x) Q :=
 Bp (es := bF B s) (Bv σ) (by rw [p_b_wish]; exact Ax (B := B) (s := s) (s' := { s with wish := x }) (.tail .head) rfl rfl σ) (osB_wish _) q (Nat.le_of_ble_eq_true rfl)
theorem Gs (x : Bool) : Es (zs "is_skipping") (.bool x) (bF B s) = bF B { s with skip := x } := by kernel_rfl
theorem Gu {x : Bool} {Q : Unit → Store → Prop} (q : Q () (AE B { s with skip := x } ++ σ)) : O2 g k EqR (AE B s ++ σ) (fun ov v => setAttr ov (zs "is_skipping") v) (.ref B.bd) (.bool x) Q :=
 Bp (es := bF B s) (Bv σ) (by rw [Gs]; exact Ax (B := B) (s := s) (s' := { s with skip := x }) (.tail .head) rfl rfl σ) (Dr _) q (Nat.le_of_ble_eq_true rfl)
theorem Ed (x : Bool) : Es (zs "is_acknowledged") (.bool x) (bF B s) = bF B { s with ack := x } := by kernel_rfl
theorem Ck {x : Bool} {Q : Unit → Store → Prop} (q : Q () (AE B { s with ack := x } ++ σ)) : O2 g k EqR (AE B s ++ σ) (fun ov v => setAttr ov (zs "is_acknowledged") v) (.ref B.bd) (.bool x) Q :=
 Bp (es := bF B s) (Bv σ) (by rw [Ed]; exact Ax (B := B) (s := s) (s' := { s with ack := x }) (.tail .head) rfl rfl σ) (Cj _) q (Nat.le_of_ble_eq_true rfl)
theorem u_kinds {ds : List V} (x : List Str) (h : ds = x.map V.str) : Upd1 B.kinds (.list (s.kinds.map V.str)) (.list ds) (AE B s ++ σ) (AE B { s with kinds := x } ++ σ) := h ▸ Ax (B := B) (s := s) (s' := { s with kinds := x }) (.tail (.tail (.tail (.tail (.tail (.tail (.tail (.tail (.head))))))))) rfl rfl σ
theorem u_spaces {ds : List V} (x : List Str) (h : ds = x.map V.str) : Upd1 B.spaces (.list (s.spaces.map V.str)) (.list ds) (AE B s ++ σ) (AE B { s with spaces := x } ++ σ) := h ▸ Ax (B := B) (s := s) (s' := { s with spaces := x }) (.tail (.tail (.tail (.tail (.tail (.tail (.tail (.tail (.tail (.head)))))))))) rfl rfl σ
theorem u_names {ds : List V} (x : List Str) (h : ds = x.map V.str) : Upd1 B.names (.list (s.names.map V.str)) (.list ds) (AE B s ++ σ) (AE B { s with names := x } ++ σ) := h ▸ Ax (B := B) (s := s) (s' := { s with names := x }) (.tail (.tail (.tail (.tail (.tail (.tail (.tail (.tail (.tail (.tail (.head))))))))))) rfl rfl σ
theorem u_texts {ds : List V} (x : List Str) (h : ds = x.map V.str) : Upd1 B.texts (.list (s.texts.map V.str)) (.list ds) (AE B s ++ σ) (AE B { s with texts := x } ++ σ) := h ▸ Ax (B := B) (s := s) (s' := { s with texts := x }) (.tail (.tail (.tail (.tail (.tail (.tail (.tail (.tail (.tail (.tail (.tail (.tail (.head))))))))))))) rfl rfl σ
theorem u_parents {ds : List V} (x : List Int) (h : ds = x.map V.int) : Upd1 B.parents (.list (s.parents.map V.int)) (.list ds) (AE B s ++ σ) (AE B { s with parents := x } ++ σ) := h ▸ Ax (B := B) (s := s) (s' := { s with parents := x }) (.tail (.tail (.tail (.tail (.tail (.tail (.tail (.tail (.tail (.tail (.tail (.tail (.tail (.head)))))))))))))) rfl rfl σ
theorem u_items {ds : List V} (x : List Int) (h : ds = x.map V.int) : Upd1 B.items (.list (s.opn.map V.int)) (.list ds) (AE B s ++ σ) (AE B { s with opn := x } ++ σ) := h ▸ Ax (B := B) (s := s) (s' := { s with opn := x }) (.tail (.tail (.tail (.tail (.tail (.tail (.tail (.tail (.tail (.tail (.tail (.tail (.tail (.tail (.tail (.tail (.head))))))))))))))))) rfl rfl σ
theorem Hn {ds : List V} (x : List Int) (h : ds = x.map V.int) : Upd1 B.fitems (.list (s.fmt.map V.int)) (.list ds) (AE B s ++ σ) (AE B { s with fmt := x } ++ σ) := h ▸ Ax (B := B) (s := s) (s' := { s with fmt := x }) (.tail (.tail (.tail (.tail (.tail (.tail (.tail (.tail (.tail (.tail (.tail (.tail (.tail (.tail (.tail (.tail (.tail (.head)))))))))))))))))) rfl rfl σ
theorem u_errors {ds : List V} (x : List (Str × Str)) (h : ds = x.map prV) : Upd1 B.errors (.list (s.errors.map prV)) (.list ds) (AE B s ++ σ) (AE B { s with errors := x } ++ σ) := h ▸ Ax (B := B) (s := s) (s' := { s with errors := x }) (.tail (.tail (.tail (.tail (.tail (.tail (.tail (.tail (.tail (.tail (.tail (.tail (.tail (.tail (.tail (.tail (.tail (.tail (.tail (.tail (.head))))))))))))))))))))) rfl rfl σ
theorem u_contents {ds : List (Int × V)} (x : List (Int × Int)) (h : ds = x.map dcV) : Upd1 B.contents (.idict (s.contents.map dcV)) (.idict ds) (AE B s ++ σ) (AE B { s with contents := x } ++ σ) := h ▸ Ax (B := B) (s := s) (s' := { s with contents := x }) (.tail (.tail (.tail (.tail (.tail (.tail (.tail (.tail (.tail (.tail (.tail (.tail (.tail (.tail (.tail (.head)))))))))))))))) rfl rfl σ
theorem u_owners {ds : List (Int × V)} (x : List (Int × Int)) (h : ds = x.map dcV) : Upd1 B.owners (.idict (s.owners.map dcV)) (.idict ds) (AE B s ++ σ) (AE B { s with owners := x } ++ σ) := h ▸ Ax (B := B) (s := s) (s' := { s with owners := x }) (.tail (.tail (.tail (.tail (.tail (.tail (.tail (.tail (.tail (.tail (.tail (.tail (.tail (.tail (.tail (.tail (.tail (.tail (.tail (.head)))))))))))))))))))) rfl rfl σ
end
end Mine
namespace Mine
section
variable (P : Params)
theorem lk_is_special : (gK P).lookup 28 = some (fO "is_special" "is_special" (tS 2) .none "htmltree.names" 194 27) := by kernel_rfl
theorem lk_is_heading : (gK P).lookup 35 = some (fO "is_heading" "is_heading" (tS 3) .none "htmltree.names" 194 34) := by kernel_rfl
theorem G7 : (gK P).lookup 49 = some (fO "implied_names" "implied_names" (tS 5) .none "htmltree.names" 194 48) := by kernel_rfl
theorem FM : (gK P).lookup 63 = some (fO "__init__" "OpenStack.__init__" (iS 7 0) .none "htmltree.openstack" 224 62) := by kernel_rfl
theorem FN : (gK P).lookup 70 = some (fO "push" "OpenStack.push" (iS 7 1) .none "htmltree.openstack" 224 69) := by kernel_rfl
theorem G8 : (gK P).lookup 77 = some (fO "pop" "OpenStack.pop" (iS 7 2) .none "htmltree.openstack" 224 76) := by kernel_rfl
theorem E9 : (gK P).lookup 84 = some (fO "current" "OpenStack.current" (iS 7 3) .none "htmltree.openstack" 224 83) := by kernel_rfl
theorem FO : (gK P).lookup 91 = some (fO "many" "OpenStack.many" (iS 7 4) .none "htmltree.openstack" 224 90) := by kernel_rfl
theorem G9 : (gK P).lookup 98 = some (fO "has" "OpenStack.has" (iS 7 5) .none "htmltree.openstack" 224 97) := by kernel_rfl
theorem FP : (gK P).lookup 126 = some (fO "name" "OpenStack.name" (iS 7 9) .none "htmltree.openstack" 224 125) := by kernel_rfl
theorem Dz : (gK P).lookup 133 = some (fO "has_name" "OpenStack.has_name" (iS 7 10) .none "htmltree.openstack" 224 132) := by kernel_rfl
theorem Di : (gK P).lookup 140 = some (fO "pop_until" "OpenStack.pop_until" (iS 7 11) .none "htmltree.openstack" 224 139) := by kernel_rfl
theorem Ho : (gK P).lookup 161 = some (fO "stops_scope" "stops_scope" (tS 8) .none "htmltree.openstack" 224 160) := by kernel_rfl
theorem lk_in_scope : (gK P).lookup 169 = some (fO "in_scope" "in_scope" (tS 9) (.ref 162) "htmltree.openstack" 224 168) := by kernel_rfl
theorem Hq : (gK P).lookup 177 = some (fO "pop_implied" "pop_implied" (tS 10) (.ref 170) "htmltree.openstack" 224 176) := by kernel_rfl
theorem lk_place_for : (gK P).lookup 192 = some (fO "place_for" "place_for" (tS 13) (.ref 185) "htmltree.inserting" 387 191) := by kernel_rfl
theorem lk_make : (gK P).lookup 200 = some (fO "make" "make" (tS 14) (.ref 193) "htmltree.inserting" 387 199) := by kernel_rfl
theorem FQ : (gK P).lookup 209 = some (fO "insert_element" "insert_element" (tS 15) (.ref 202) "htmltree.inserting" 387 208) := by kernel_rfl
theorem Gv : (gK P).lookup 216 = some (fO "insert_token" "insert_token" (tS 16) .none "htmltree.inserting" 387 215) := by kernel_rfl
theorem Hr : (gK P).lookup 223 = some (fO "insert_void" "insert_void" (tS 17) .none "htmltree.inserting" 387 222) := by kernel_rfl
theorem lk_associate : (gK P).lookup 230 = some (fO "associate" "associate" (tS 18) .none "htmltree.inserting" 387 229) := by kernel_rfl
theorem Hs : (gK P).lookup 237 = some (fO "reconstruct" "reconstruct" (tS 19) .none "htmltree.inserting" 387 236) := by kernel_rfl
theorem lk_close_p : (gK P).lookup 244 = some (fO "close_p" "close_p" (tS 20) .none "htmltree.inserting" 387 243) := by kernel_rfl
theorem lk_start_raw : (gK P).lookup 251 = some (fO "start_raw" "start_raw" (tS 21) .none "htmltree.inserting" 387 250) := by kernel_rfl
theorem lk_leave_p : (gK P).lookup 258 = some (fO "leave_p" "leave_p" (tS 23) .none "htmltree.bodyblocks" 493 257) := by kernel_rfl
theorem Ht : (gK P).lookup 266 = some (fO "close_named" "close_named" (tS 24) (.ref 259) "htmltree.bodyblocks" 493 265) := by kernel_rfl
theorem Hu : (gK P).lookup 273 = some (fO "start_block" "start_block" (tS 25) .none "htmltree.bodyblocks" 493 272) := by kernel_rfl
theorem lk_open_item : (gK P).lookup 280 = some (fO "open_item" "open_item" (tS 26) .none "htmltree.bodyblocks" 493 279) := by kernel_rfl
theorem lk_start_item : (gK P).lookup 287 = some (fO "start_item" "start_item" (tS 27) .none "htmltree.bodyblocks" 493 286) := by kernel_rfl
theorem lk_start_form : (gK P).lookup 294 = some (fO "start_form" "start_form" (tS 28) .none "htmltree.bodyblocks" 493 293) := by kernel_rfl
theorem Gw : (gK P).lookup 301 = some (fO "start_button" "start_button" (tS 29) .none "htmltree.bodyblocks" 493 300) := by kernel_rfl
theorem Hv : (gK P).lookup 308 = some (fO "start_table" "start_table" (tS 30) .none "htmltree.bodyblocks" 493 307) := by kernel_rfl
theorem lk_start_xmp : (gK P).lookup 315 = some (fO "start_xmp" "start_xmp" (tS 31) .none "htmltree.bodyblocks" 493 314) := by kernel_rfl
theorem Hw : (gK P).lookup 322 = some (fO "block_start" "block_start" (tS 32) .none "htmltree.bodyblocks" 493 321) := by kernel_rfl
theorem Ey : (gK P).lookup 368 = some (fO "__init__" "Formatting.__init__" (iS 37 0) .none "htmltree.formatting" 635 367) := by kernel_rfl
theorem lk_Tree_init : (gK P).lookup 459 = some (fO "__init__" "Tree.__init__" (iS 40 0) .none "htmltree.tree" 752 458) := by kernel_rfl
theorem GU : (gK P).lookup 468 = some (fO "add" "Tree.add" (iS 40 1) (.ref 461) "htmltree.tree" 752 467) := by kernel_rfl
theorem Gx : (gK P).lookup 477 = some (fO "element" "Tree.element" (iS 40 2) (.ref 470) "htmltree.tree" 752 476) := by kernel_rfl
theorem Hx : (gK P).lookup 506 = some (fO "insert" "Tree.insert" (iS 40 6) (.ref 499) "htmltree.tree" 752 505) := by kernel_rfl
theorem Hy : (gK P).lookup 513 = some (fO "append" "Tree.append" (iS 40 7) .none "htmltree.tree" 752 512) := by kernel_rfl
theorem Hz : (gK P).lookup 520 = some (fO "remove" "Tree.remove" (iS 40 8) .none "htmltree.tree" 752 519) := by kernel_rfl
theorem lk_Tree_value : (gK P).lookup 548 = some (fO "value" "Tree.value" (iS 40 12) .none "htmltree.tree" 752 547) := by kernel_rfl
theorem Gy : (gK P).lookup 555 = some (fO "is_html" "Tree.is_html" (iS 40 13) .none "htmltree.tree" 752 554) := by kernel_rfl
theorem lk_above : (gK P).lookup 569 = some (fO "above" "above" (tS 41) .none "htmltree.tree" 752 568) := by kernel_rfl
theorem Gz : (gK P).lookup 584 = some (fO "__init__" "Builder.__init__" (iS 43 0) (.ref 577) "htmltree.builder" 926 583) := by kernel_rfl
theorem GA : (gK P).lookup 591 = some (fO "error" "Builder.error" (iS 43 1) .none "htmltree.builder" 926 590) := by kernel_rfl
theorem lk_Builder_to : (gK P).lookup 598 = some (fO "to" "Builder.to" (iS 43 2) .none "htmltree.builder" 926 597) := by kernel_rfl
theorem lk_law_digit : (gK P).lookup 647 = some (fO "_law_digit" "_law_digit" (tS 45) .none "law_nt0616_01" 1033 646) := by kernel_rfl
theorem lk_law_scenes : (gK P).lookup 654 = some (fO "_law_scenes" "_law_scenes" (tS 46) .none "law_nt0616_01" 1033 653) := by kernel_rfl
theorem lk_law_tags : (gK P).lookup 661 = some (fO "_law_tags" "_law_tags" (tS 47) .none "law_nt0616_01" 1033 660) := by kernel_rfl
theorem lk_law_words : (gK P).lookup 668 = some (fO "_law_words" "_law_words" (tS 48) .none "law_nt0616_01" 1033 667) := by kernel_rfl
theorem lk_law_ready : (gK P).lookup 673 = some (fO "_law_ready" "_law_ready" (tS 49) .none "law_nt0616_01" 1033 672) := by kernel_rfl
theorem lk_law_copy : (gK P).lookup 678 = some (fO "_law_copy" "_law_copy" (tS 50) .none "law_nt0616_01" 1033 677) := by kernel_rfl
theorem lk_law_open : (gK P).lookup 683 = some (fO "_law_open" "_law_open" (tS 51) .none "law_nt0616_01" 1033 682) := by kernel_rfl
theorem lk_law_solid : (gK P).lookup 688 = some (fO "_law_solid" "_law_solid" (tS 52) .none "law_nt0616_01" 1033 687) := by kernel_rfl
theorem lk_law_ends : (gK P).lookup 693 = some (fO "_law_ends" "_law_ends" (tS 53) .none "law_nt0616_01" 1033 692) := by kernel_rfl
theorem lk_law_place : (gK P).lookup 698 = some (fO "_law_place" "_law_place" (tS 54) .none "law_nt0616_01" 1033 697) := by kernel_rfl
theorem lk_law_close : (gK P).lookup 705 = some (fO "_law_close" "_law_close" (tS 55) .none "law_nt0616_01" 1033 704) := by kernel_rfl
theorem lk_law_put : (gK P).lookup 712 = some (fO "_law_put" "_law_put" (tS 56) .none "law_nt0616_01" 1033 711) := by kernel_rfl
theorem lk_law_reopen : (gK P).lookup 717 = some (fO "_law_reopen" "_law_reopen" (tS 57) .none "law_nt0616_01" 1033 716) := by kernel_rfl
theorem FR : (gK P).lookup 724 = some (fO "_law_told_wrong" "_law_told_wrong" (tS 58) .none "law_nt0616_01" 1033 723) := by kernel_rfl
theorem lk_law_ahead : (gK P).lookup 729 = some (fO "_law_ahead" "_law_ahead" (tS 59) .none "law_nt0616_01" 1033 728) := by kernel_rfl
theorem lk_law_due : (gK P).lookup 736 = some (fO "_law_due" "_law_due" (tS 60) .none "law_nt0616_01" 1033 735) := by kernel_rfl
theorem lk_law_flags : (gK P).lookup 743 = some (fO "_law_flags" "_law_flags" (tS 61) .none "law_nt0616_01" 1033 742) := by kernel_rfl
theorem H0 : (gK P).lookup 750 = some (fO "_law_set_back" "_law_set_back" (tS 62) .none "law_nt0616_01" 1033 749) := by kernel_rfl
theorem lk_law_is_due : (gK P).lookup 755 = some (fO "_law_is_due" "_law_is_due" (tS 63) .none "law_nt0616_01" 1033 754) := by kernel_rfl
theorem cd_is_special : codeIn (gK P) (.ref 27) (zs "is_special") = true := by kernel_rfl
theorem kp_is_special : keepIn (gK P) (.ref 28) = true := by kernel_rfl
theorem cd_is_heading : codeIn (gK P) (.ref 34) (zs "is_heading") = true := by kernel_rfl
theorem Ek : keepIn (gK P) (.ref 35) = true := by kernel_rfl
theorem GB : codeIn (gK P) (.ref 48) (zs "implied_names") = true := by kernel_rfl
theorem GC : keepIn (gK P) (.ref 49) = true := by kernel_rfl
theorem FS : codeIn (gK P) (.ref 62) (zs "OpenStack.__init__") = true := by kernel_rfl
theorem FT : codeIn (gK P) (.ref 69) (zs "OpenStack.push") = true := by kernel_rfl
theorem GD : codeIn (gK P) (.ref 76) (zs "OpenStack.pop") = true := by kernel_rfl
theorem EA : codeIn (gK P) (.ref 83) (zs "OpenStack.current") = true := by kernel_rfl
theorem FU : codeIn (gK P) (.ref 90) (zs "OpenStack.many") = true := by kernel_rfl
theorem GE : codeIn (gK P) (.ref 97) (zs "OpenStack.has") = true := by kernel_rfl
theorem FV : codeIn (gK P) (.ref 125) (zs "OpenStack.name") = true := by kernel_rfl
theorem E0 : codeIn (gK P) (.ref 132) (zs "OpenStack.has_name") = true := by kernel_rfl
theorem Dj : codeIn (gK P) (.ref 139) (zs "OpenStack.pop_until") = true := by kernel_rfl
theorem I0 : codeIn (gK P) (.ref 160) (zs "stops_scope") = true := by kernel_rfl
theorem I1 : keepIn (gK P) (.ref 161) = true := by kernel_rfl
theorem cd_in_scope : codeIn (gK P) (.ref 168) (zs "in_scope") = true := by kernel_rfl
theorem GV : keepIn (gK P) (.ref 169) = true := by kernel_rfl
theorem I2 : codeIn (gK P) (.ref 176) (zs "pop_implied") = true := by kernel_rfl
theorem Cz : keepIn (gK P) (.ref 177) = true := by kernel_rfl
theorem cd_place_for : codeIn (gK P) (.ref 191) (zs "place_for") = true := by kernel_rfl
theorem kp_place_for : keepIn (gK P) (.ref 192) = true := by kernel_rfl
theorem cd_make : codeIn (gK P) (.ref 199) (zs "make") = true := by kernel_rfl
theorem kp_make : keepIn (gK P) (.ref 200) = true := by kernel_rfl
theorem FW : codeIn (gK P) (.ref 208) (zs "insert_element") = true := by kernel_rfl
theorem DH : keepIn (gK P) (.ref 209) = true := by kernel_rfl
theorem H1 : codeIn (gK P) (.ref 215) (zs "insert_token") = true := by kernel_rfl
theorem B4 : keepIn (gK P) (.ref 216) = true := by kernel_rfl
theorem I3 : codeIn (gK P) (.ref 222) (zs "insert_void") = true := by kernel_rfl
theorem I4 : keepIn (gK P) (.ref 223) = true := by kernel_rfl
theorem cd_associate : codeIn (gK P) (.ref 229) (zs "associate") = true := by kernel_rfl
theorem kp_associate : keepIn (gK P) (.ref 230) = true := by kernel_rfl
theorem I5 : codeIn (gK P) (.ref 236) (zs "reconstruct") = true := by kernel_rfl
theorem EB : keepIn (gK P) (.ref 237) = true := by kernel_rfl
theorem cd_close_p : codeIn (gK P) (.ref 243) (zs "close_p") = true := by kernel_rfl
theorem kp_close_p : keepIn (gK P) (.ref 244) = true := by kernel_rfl
theorem cd_start_raw : codeIn (gK P) (.ref 250) (zs "start_raw") = true := by kernel_rfl
theorem kp_start_raw : keepIn (gK P) (.ref 251) = true := by kernel_rfl
theorem cd_leave_p : codeIn (gK P) (.ref 257) (zs "leave_p") = true := by kernel_rfl
theorem D0 : keepIn (gK P) (.ref 258) = true := by kernel_rfl
theorem I6 : codeIn (gK P) (.ref 265) (zs "close_named") = true := by kernel_rfl
theorem I7 : keepIn (gK P) (.ref 266) = true := by kernel_rfl
theorem I8 : codeIn (gK P) (.ref 272) (zs "start_block") = true := by kernel_rfl
theorem I9 : keepIn (gK P) (.ref 273) = true := by kernel_rfl
theorem cd_open_item : codeIn (gK P) (.ref 279) (zs "open_item") = true := by kernel_rfl
theorem kp_open_item : keepIn (gK P) (.ref 280) = true := by kernel_rfl
theorem cd_start_item : codeIn (gK P) (.ref 286) (zs "start_item") = true := by kernel_rfl
theorem El : keepIn (gK P) (.ref 287) = true := by kernel_rfl
theorem cd_start_form : codeIn (gK P) (.ref 293) (zs "start_form") = true := by kernel_rfl
theorem kp_start_form : keepIn (gK P) (.ref 294) = true := by kernel_rfl
theorem H3 : codeIn (gK P) (.ref 300) (zs "start_button") = true := by kernel_rfl
theorem H4 : keepIn (gK P) (.ref 301) = true := by kernel_rfl
theorem IA : codeIn (gK P) (.ref 307) (zs "start_table") = true := by kernel_rfl
theorem IB : keepIn (gK P) (.ref 308) = true := by kernel_rfl
theorem cd_start_xmp : codeIn (gK P) (.ref 314) (zs "start_xmp") = true := by kernel_rfl
theorem kp_start_xmp : keepIn (gK P) (.ref 315) = true := by kernel_rfl
theorem IC : codeIn (gK P) (.ref 321) (zs "block_start") = true := by kernel_rfl
theorem ID : keepIn (gK P) (.ref 322) = true := by kernel_rfl
theorem Ez : codeIn (gK P) (.ref 367) (zs "Formatting.__init__") = true := by kernel_rfl
theorem cd_Tree_init : codeIn (gK P) (.ref 458) (zs "Tree.__init__") = true := by kernel_rfl
theorem GW : codeIn (gK P) (.ref 467) (zs "Tree.add") = true := by kernel_rfl
theorem H5 : codeIn (gK P) (.ref 476) (zs "Tree.element") = true := by kernel_rfl
theorem IE : codeIn (gK P) (.ref 505) (zs "Tree.insert") = true := by kernel_rfl
theorem IF : codeIn (gK P) (.ref 512) (zs "Tree.append") = true := by kernel_rfl
theorem IG : codeIn (gK P) (.ref 519) (zs "Tree.remove") = true := by kernel_rfl
theorem cd_Tree_value : codeIn (gK P) (.ref 547) (zs "Tree.value") = true := by kernel_rfl
theorem H6 : codeIn (gK P) (.ref 554) (zs "Tree.is_html") = true := by kernel_rfl
theorem cd_above : codeIn (gK P) (.ref 568) (zs "above") = true := by kernel_rfl
theorem kp_above : keepIn (gK P) (.ref 569) = true := by kernel_rfl
theorem H7 : codeIn (gK P) (.ref 583) (zs "Builder.__init__") = true := by kernel_rfl
theorem GF : codeIn (gK P) (.ref 590) (zs "Builder.error") = true := by kernel_rfl
theorem cd_Builder_to : codeIn (gK P) (.ref 597) (zs "Builder.to") = true := by kernel_rfl
theorem cd_law_digit : codeIn (gK P) (.ref 646) (zs "_law_digit") = true := by kernel_rfl
theorem Dk : keepIn (gK P) (.ref 647) = true := by kernel_rfl
theorem cd_law_scenes : codeIn (gK P) (.ref 653) (zs "_law_scenes") = true := by kernel_rfl
theorem kp_law_scenes : keepIn (gK P) (.ref 654) = true := by kernel_rfl
theorem cd_law_tags : codeIn (gK P) (.ref 660) (zs "_law_tags") = true := by kernel_rfl
theorem kp_law_tags : keepIn (gK P) (.ref 661) = true := by kernel_rfl
theorem cd_law_words : codeIn (gK P) (.ref 667) (zs "_law_words") = true := by kernel_rfl
theorem kp_law_words : keepIn (gK P) (.ref 668) = true := by kernel_rfl
theorem cd_law_ready : codeIn (gK P) (.ref 672) (zs "_law_ready") = true := by kernel_rfl
theorem kp_law_ready : keepIn (gK P) (.ref 673) = true := by kernel_rfl
theorem cd_law_copy : codeIn (gK P) (.ref 677) (zs "_law_copy") = true := by kernel_rfl
theorem kp_law_copy : keepIn (gK P) (.ref 678) = true := by kernel_rfl
theorem cd_law_open : codeIn (gK P) (.ref 682) (zs "_law_open") = true := by kernel_rfl
theorem DI : keepIn (gK P) (.ref 683) = true := by kernel_rfl
theorem cd_law_solid : codeIn (gK P) (.ref 687) (zs "_law_solid") = true := by kernel_rfl
theorem kp_law_solid : keepIn (gK P) (.ref 688) = true := by kernel_rfl
theorem cd_law_ends : codeIn (gK P) (.ref 692) (zs "_law_ends") = true := by kernel_rfl
theorem kp_law_ends : keepIn (gK P) (.ref 693) = true := by kernel_rfl
theorem cd_law_place : codeIn (gK P) (.ref 697) (zs "_law_place") = true := by kernel_rfl
theorem FX : keepIn (gK P) (.ref 698) = true := by kernel_rfl
theorem cd_law_close : codeIn (gK P) (.ref 704) (zs "_law_close") = true := by kernel_rfl
theorem Co : keepIn (gK P) (.ref 705) = true := by kernel_rfl
theorem cd_law_put : codeIn (gK P) (.ref 711) (zs "_law_put") = true := by kernel_rfl
theorem IH : keepIn (gK P) (.ref 712) = true := by kernel_rfl
theorem cd_law_reopen : codeIn (gK P) (.ref 716) (zs "_law_reopen") = true := by kernel_rfl
theorem kp_law_reopen : keepIn (gK P) (.ref 717) = true := by kernel_rfl
theorem FY : codeIn (gK P) (.ref 723) (zs "_law_told_wrong") = true := by kernel_rfl
theorem CG : keepIn (gK P) (.ref 724) = true := by kernel_rfl
theorem cd_law_ahead : codeIn (gK P) (.ref 728) (zs "_law_ahead") = true := by kernel_rfl
theorem kp_law_ahead : keepIn (gK P) (.ref 729) = true := by kernel_rfl
theorem cd_law_due : codeIn (gK P) (.ref 735) (zs "_law_due") = true := by kernel_rfl
theorem kp_law_due : keepIn (gK P) (.ref 736) = true := by kernel_rfl
theorem cd_law_flags : codeIn (gK P) (.ref 742) (zs "_law_flags") = true := by kernel_rfl
theorem kp_law_flags : keepIn (gK P) (.ref 743) = true := by kernel_rfl
theorem H8 : codeIn (gK P) (.ref 749) (zs "_law_set_back") = true := by kernel_rfl
theorem H9 : keepIn (gK P) (.ref 750) = true := by kernel_rfl
theorem cd_law_is_due : codeIn (gK P) (.ref 754) (zs "_law_is_due") = true := by kernel_rfl
theorem kp_law_is_due : keepIn (gK P) (.ref 755) = true := by kernel_rfl
end
end Mine
namespace Mine
inductive C5 (a b c d e : Prop) : Prop
 | mk (ha : a) (hb : b) (hc : c) (hd : d) (he : e) : C5 a b c d e
inductive C6 (a b c d e f : Prop) : Prop
 | mk (ha : a) (hb : b) (hc : c) (hd : d) (he : e) (hf : f) : C6 a b c d e f
inductive C7 (a b c d e f g : Prop) : Prop
 | mk (ha : a) (hb : b) (hc : c) (hd : d) (he : e) (hf : f) (hg : g) : C7 a b c d e f g
theorem DY {b : Bool} {A B : Prop} (h : b = true) (a : A) : if b = true then A else B := by rw [if_pos h]; exact a
theorem CH {b : Bool} {A B : Prop} (h : b = false) (a : B) : if b = true then A else B := by rw [if_neg (by rw [h]; decide)]; exact a
theorem AQ {b : Bool} {A B : Prop} (h1 : b = true → A) (h2 : b = false → B) : if b = true then A else B := by
 cases b
 ·exact CH rfl (h2 rfl)
 ·exact DY rfl (h1 rfl)
theorem sz_lit {n : Nat} (h : Nat.ble n 1000 = true) : n ≤ sizeLine := by have := Nat.le_of_ble_eq_true h; rw [sizeLine_eq]; omega
noncomputable abbrev AsK (g : G) (k : Nat) (ts : List (Value → Sem Unit)) (ds : List V) (Q : Store → Prop) : Unit → Store → Prop := fun _ σ' => AsS g k ts ds σ' Q
theorem BB {g : G} {k : Nat} {t : Value → Sem Unit} {ts : List (Value → Sem Unit)} {d : V} {ds : List V} {σ : Store} {Q : Store → Prop} (h : O1 g k EqR σ t d (AsK g k ts ds Q)) : AsS g k (t :: ts) (d :: ds) σ Q := h
theorem DJ {g : G} {k : Nat} {σ : Store} {Q : Store → Prop} (h : Q σ) : AsS g k [] [] σ Q := h
theorem AR {Q : V → Store → Prop} {d : V} {σ σ' : Store} (h : σ.Sublist σ') (q : Q d σ) : BC Q (.ret d) σ' := ⟨_, _, h, .refl _, q⟩
theorem AZ {Q : V → Store → Prop} {σ σ' : Store} (h : σ.Sublist σ') (q : Q .none σ) : BC Q .next σ' := ⟨_, _, h, .refl _, q⟩
theorem ret_swap {Q : V → Store → Prop} {d : V} {R τ : Store} {p a l : Addr × Cell} (q : Q d (R ++ l :: a :: τ)) : BC Q (.ret d) (R ++ p :: a :: l :: τ) := ⟨_, _, List.Sublist.append_left (List.sublist_cons_self _ _) _, List.Perm.append_left _ (List.Perm.swap ..), q⟩
theorem Ak (R : Store) (p : Addr × Cell) (τ : Store) : (R ++ τ).Sublist (R ++ p :: τ) := List.Sublist.append_left (List.sublist_cons_self _ _) _
theorem sub2 (R : Store) (p q : Addr × Cell) (τ : Store) : (R ++ τ).Sublist (R ++ p :: q :: τ) := List.Sublist.append_left ((List.sublist_cons_self _ _).trans (List.sublist_cons_self _ _)) _
theorem sub3 (R : Store) (p q r : Addr × Cell) (τ : Store) : (R ++ τ).Sublist (R ++ p :: q :: r :: τ) := (sub2 R q r τ).trans (Ak R p _)
theorem LocR.append {h : Heap} {a b c d} (x : LocR h a b) (y : LocR h c d) : LocR h (a ++ c) (b ++ d) := by
 induction x with
 | nil => exact y
 | cons i _ ih => exact .cons i ih
theorem bndD1 {g : G} {fd : FuncData} {T : Addr} {o : Obj} {items : Array Value} {c : Nat} {d1 : V} {x1 : Str} {kk : Value → Option (Array Value) → Sem (List (Str × Value))} {ex : List (Str × Value)} {mex : Loc} (hd : fd.defaults = .ref T) (ho : g.K.lookup T = some o) (hs : o.data = .seq items c)
  (h₁ : ∀ v1, bindArgs fd ⟨[v1], []⟩ = seqItems? fd.defaults >>= kk v1) (h₂ : ∀ v1, kk v1 (some items) = pure ((x1, v1) :: ex)) (hex : ∀ h, g.K.In h → LocR h ex.reverse mex) (ok : bOk fd (x1 :: ex.map (·.1)) = true) : Bnd g fd [d1] (mex ++ [(x1, d1)]) := fun s vs i X => by
 cases i with | cons i1 i =>
 cases i
 refine ⟨(x1, _) :: ex, .of_defaults hd (X _ _ ho) hs (h₁ _) (h₂ _), ?_, fun y hy => Dg (xs := x1 :: ex.map (·.1)) ok ?_⟩
 ·simp only [List.reverse_cons, List.append_assoc, List.cons_append, List.nil_append]
  exact (hex _ X).append (.cons i1 (.nil))
 ·have := List.mem_map_of_mem (f := (·.1)) hy; simpa using this
theorem bndD2 {g : G} {fd : FuncData} {T : Addr} {o : Obj} {items : Array Value} {c : Nat} {d1 d2 : V} {x1 x2 : Str} {kk : Value → Value → Option (Array Value) → Sem (List (Str × Value))} {ex : List (Str × Value)} {mex : Loc} (hd : fd.defaults = .ref T) (ho : g.K.lookup T = some o) (hs : o.data = .seq items c)
  (h₁ : ∀ v1 v2, bindArgs fd ⟨[v1, v2], []⟩ = seqItems? fd.defaults >>= kk v1 v2) (h₂ : ∀ v1 v2, kk v1 v2 (some items) = pure ((x1, v1) :: (x2, v2) :: ex)) (hex : ∀ h, g.K.In h → LocR h ex.reverse mex) (ok : bOk fd (x1 :: x2 :: ex.map (·.1)) = true) : Bnd g fd [d1, d2] (mex ++ [(x2, d2), (x1, d1)]) := fun s vs i X => by
 cases i with | cons i1 i =>
 cases i with | cons i2 i =>
 cases i
 refine ⟨(x1, _) :: (x2, _) :: ex, .of_defaults hd (X _ _ ho) hs (h₁ _ _) (h₂ _ _), ?_, fun y hy => Dg (xs := x1 :: x2 :: ex.map (·.1)) ok ?_⟩
 ·simp only [List.reverse_cons, List.append_assoc, List.cons_append, List.nil_append]
  exact (hex _ X).append (.cons i2 (.cons i1 (.nil)))
 ·have := List.mem_map_of_mem (f := (·.1)) hy; simpa using this
theorem bndD3 {g : G} {fd : FuncData} {T : Addr} {o : Obj} {items : Array Value} {c : Nat} {d1 d2 d3 : V} {x1 x2 x3 : Str} {kk : Value → Value → Value → Option (Array Value) → Sem (List (Str × Value))} {ex : List (Str × Value)} {mex : Loc} (hd : fd.defaults = .ref T) (ho : g.K.lookup T = some o) (hs : o.data = .seq items c)
  (h₁ : ∀ v1 v2 v3, bindArgs fd ⟨[v1, v2, v3], []⟩ = seqItems? fd.defaults >>= kk v1 v2 v3) (h₂ : ∀ v1 v2 v3, kk v1 v2 v3 (some items) = pure ((x1, v1) :: (x2, v2) :: (x3, v3) :: ex)) (hex : ∀ h, g.K.In h → LocR h ex.reverse mex) (ok : bOk fd (x1 :: x2 :: x3 :: ex.map (·.1)) = true) : Bnd g fd [d1, d2, d3] (mex ++ [(x3, d3), (x2, d2), (x1, d1)]) := fun s vs i X => by
 cases i with | cons i1 i =>
 cases i with | cons i2 i =>
 cases i with | cons i3 i =>
 cases i
 refine ⟨(x1, _) :: (x2, _) :: (x3, _) :: ex, .of_defaults hd (X _ _ ho) hs (h₁ _ _ _) (h₂ _ _ _), ?_, fun y hy => Dg (xs := x1 :: x2 :: x3 :: ex.map (·.1)) ok ?_⟩
 ·simp only [List.reverse_cons, List.append_assoc, List.cons_append, List.nil_append]
  exact (hex _ X).append (.cons i3 (.cons i2 (.cons i1 (.nil))))
 ·have := List.mem_map_of_mem (f := (·.1)) hy; simpa using this
theorem bndD4 {g : G} {fd : FuncData} {T : Addr} {o : Obj} {items : Array Value} {c : Nat} {d1 d2 d3 d4 : V} {x1 x2 x3 x4 : Str} {kk : Value → Value → Value → Value → Option (Array Value) → Sem (List (Str × Value))} {ex : List (Str × Value)} {mex : Loc} (hd : fd.defaults = .ref T) (ho : g.K.lookup T = some o) (hs : o.data = .seq items c)
  (h₁ : ∀ v1 v2 v3 v4, bindArgs fd ⟨[v1, v2, v3, v4], []⟩ = seqItems? fd.defaults >>= kk v1 v2 v3 v4) (h₂ : ∀ v1 v2 v3 v4, kk v1 v2 v3 v4 (some items) = pure ((x1, v1) :: (x2, v2) :: (x3, v3) :: (x4, v4) :: ex)) (hex : ∀ h, g.K.In h → LocR h ex.reverse mex) (ok : bOk fd (x1 :: x2 :: x3 :: x4 :: ex.map (·.1)) = true) : Bnd g fd [d1, d2, d3, d4] (mex ++ [(x4, d4), (x3, d3), (x2, d2), (x1, d1)]) := fun s vs i X => by
 cases i with | cons i1 i =>
 cases i with | cons i2 i =>
 cases i with | cons i3 i =>
 cases i with | cons i4 i =>
 cases i
 refine ⟨(x1, _) :: (x2, _) :: (x3, _) :: (x4, _) :: ex, .of_defaults hd (X _ _ ho) hs (h₁ _ _ _ _) (h₂ _ _ _ _), ?_, fun y hy => Dg (xs := x1 :: x2 :: x3 :: x4 :: ex.map (·.1)) ok ?_⟩
 ·simp only [List.reverse_cons, List.append_assoc, List.cons_append, List.nil_append]
  exact (hex _ X).append (.cons i4 (.cons i3 (.cons i2 (.cons i1 (.nil)))))
 ·have := List.mem_map_of_mem (f := (·.1)) hy; simpa using this
theorem bndD5 {g : G} {fd : FuncData} {T : Addr} {o : Obj} {items : Array Value} {c : Nat} {d1 d2 d3 d4 d5 : V} {x1 x2 x3 x4 x5 : Str} {kk : Value → Value → Value → Value → Value → Option (Array Value) → Sem (List (Str × Value))} {ex : List (Str × Value)} {mex : Loc} (hd : fd.defaults = .ref T) (ho : g.K.lookup T = some o) (hs : o.data = .seq items c)
  (h₁ : ∀ v1 v2 v3 v4 v5, bindArgs fd ⟨[v1, v2, v3, v4, v5], []⟩ = seqItems? fd.defaults >>= kk v1 v2 v3 v4 v5) (h₂ : ∀ v1 v2 v3 v4 v5, kk v1 v2 v3 v4 v5 (some items) = pure ((x1, v1) :: (x2, v2) :: (x3, v3) :: (x4, v4) :: (x5, v5) :: ex)) (hex : ∀ h, g.K.In h → LocR h ex.reverse mex) (ok : bOk fd (x1 :: x2 :: x3 :: x4 :: x5 :: ex.map (·.1)) = true) : Bnd g fd [d1, d2, d3, d4, d5] (mex ++ [(x5, d5), (x4, d4), (x3, d3), (x2, d2), (x1, d1)]) := fun s vs i X => by
 cases i with | cons i1 i =>
 cases i with | cons i2 i =>
 cases i with | cons i3 i =>
 cases i with | cons i4 i =>
 cases i with | cons i5 i =>
 cases i
 refine ⟨(x1, _) :: (x2, _) :: (x3, _) :: (x4, _) :: (x5, _) :: ex, .of_defaults hd (X _ _ ho) hs (h₁ _ _ _ _ _) (h₂ _ _ _ _ _), ?_, fun y hy => Dg (xs := x1 :: x2 :: x3 :: x4 :: x5 :: ex.map (·.1)) ok ?_⟩
 ·simp only [List.reverse_cons, List.append_assoc, List.cons_append, List.nil_append]
  exact (hex _ X).append (.cons i5 (.cons i4 (.cons i3 (.cons i2 (.cons i1 (.nil))))))
 ·have := List.mem_map_of_mem (f := (·.1)) hy; simpa using this
noncomputable def Sub (m m' : Loc) : Prop := ∀ x d, m.lookup x = some d → m'.lookup x = some d
theorem Sub.nil {m : Loc} : Sub [] m := fun _ _ e => by cases e
theorem Sub.cons {m m' : Loc} {x : Str} {d : V} (h : m'.lookup x = some d) (s : Sub m m') : Sub ((x, d) :: m) m' := fun y e q => by
 by_cases c : y = x
 ·subst c; simp at q; subst q; exact h
 ·have c' : (y == x) = false := beq_eq_false_iff_ne.mpr c
  simp only [List.lookup, c'] at q; exact s y e q
theorem Sub.refl (m : Loc) : Sub m m := fun _ _ e => e
theorem SGd.weak {g : G} {R τ : Store} {L : Addr} {m m' : Loc} {h : HS} (S : SGd g (Fm R L m' τ) h) (s : Sub m m') : SGd g (Fm R L m τ) h := by
 refine ⟨fun p hp => ?_, by simpa using S.nodup, S.keep, fun p hp => ?_, fun p hp => ?_, S.osq, S.geq⟩
 ·rcases List.mem_append.mp hp with q | q
  ·exact S.cells p (List.mem_append_left _ q)
  ·rcases List.mem_cons.mp q with rfl | q
   ·obtain ⟨ml, hn, hr⟩ := S.cells (L, .ns m') (Fy ..)
    exact ⟨ml, hn, fun x d e => hr x d (s x d e)⟩
   ·exact S.cells p (List.mem_append_right _ (.tail _ q))
 ·have : ∃ c, (p.1, c) ∈ Fm R L m' τ := by
   rcases List.mem_append.mp hp with q | q
   ·exact ⟨p.2, List.mem_append_left _ q⟩
   ·rcases List.mem_cons.mp q with rfl | q
    ·exact ⟨_, Fy ..⟩
    ·exact ⟨p.2, List.mem_append_right _ (.tail _ q)⟩
  obtain ⟨c, hc⟩ := this
  exact S.fresh (p.1, c) hc
 ·have : ∃ c, (p.1, c) ∈ Fm R L m' τ := by
   rcases List.mem_append.mp hp with q | q
   ·exact ⟨p.2, List.mem_append_left _ q⟩
   ·rcases List.mem_cons.mp q with rfl | q
    ·exact ⟨_, Fy ..⟩
    ·exact ⟨p.2, List.mem_append_right _ (.tail _ q)⟩
  obtain ⟨c, hc⟩ := this
  exact S.big (p.1, c) hc
inductive GotT2 (g : G) (h : Heap) (d : V) (σ : Store) (v : Value) (s' : Shared) : Prop
 | mk (i : Is s'.heap v d) (S : SGd g σ (Hp s')) (k : Keeps h s'.heap) : GotT2 g h d σ v s'
inductive GotT (g : G) (target : Expr) (it : Addr) (A : Around) (h : Heap) (d : V) (σ : Store) (o : Option Value) (s' : Shared) : Prop
 | mk (v : Value) (e : o = some v) (q : wpAny (model g.prog g.w) A (letOwnedTupleGo target (.ref it) v) (fun _ s'' => GotT2 g h d σ v s'') NoE s') : GotT g target it A h d σ o s'
structure ItT (g : G) (it : Addr) (target : Expr) where
 n : Nat
 item : Nat → V
 own : Nat → Store
 src : Store → Prop
 know : Heap → Prop
 mono : ∀ h h', Keeps h h' → know h → know h'
 next : ∀ i, i < n → ∀ (A : Around) σ s, A.handled = none → src σ → know s.heap → SGd g (own i ++ σ) (Hp s) → wpAny (model g.prog g.w) A (pyNext (.ref it)) (GotT g target it A s.heap (item i) (own (i + 1) ++ σ)) NoE s
 stop : ∀ (A : Around) σ s, A.handled = none → src σ → know s.heap → SGd g (own n ++ σ) (Hp s) → wpAny (model g.prog g.w) A (pyNext (.ref it)) (EndN g s.heap σ) NoE s
inductive ItGotT (g : G) (target : Expr) (h : Heap) (σ : Store) (Q : ∀ it, ItT g it target → Prop) (w : Value) (s' : Shared) : Prop
 | mk (it : Addr) (I : ItT g it target) (e : w = .ref it) (S : SGd g (I.own 0 ++ σ) (Hp s')) (k : Keeps h s'.heap) (n : I.know s'.heap) (q : Q it I) : ItGotT g target h σ Q w s'
noncomputable def IterT2 (g : G) (k : Nat) (target : Expr) (σ σ₂ : Store) (d : V) (Q : ∀ it, ItT g it target → Prop) : Prop :=
 ∀ A, Room A k → ∀ s v, SGd g σ (Hp s) → Is s.heap v d → wpAny (model g.prog g.w) A (pyIter v) (ItGotT g target s.heap σ₂ Q) NoE s
noncomputable def IterT (g : G) (k : Nat) (target : Expr) (σ : Store) (d : V) (Q : ∀ it, ItT g it target → Prop) : Prop := IterT2 g k target σ σ d Q
noncomputable def It.toT {g : G} {it : Addr} (target : Expr) (ht : ∀ it v, letOwnedTupleGo target it v = pure ()) (I : It g it) : ItT g it target where
 n := I.n
 item := I.item
 own := I.own
 src := I.src
 know := I.know
 mono := I.mono
 next i hi A σ s hh hs kn S := wpAny_mono (I.next i hi A σ s hh hs kn S) (fun o s' ⟨v, e, i, S, k⟩ => ⟨v, e, by rw [ht]; exact wpAny_pure ⟨i, S, k⟩⟩) fun _ _ e => e
 stop := I.stop
section
variable {g : G} {k : Nat} {σ : Store} {env : Env} {L : Addr}
inductive AtFm (L : Addr) (o : Store) (P : Store → Loc → Store → Prop) (σ : Store) : Prop
 | mk (R : Store) (m m' : Loc) (τ : Store) (e : σ = Fm R L m' (o ++ τ)) (s : Sub m m') (h : P R m τ) : AtFm L o P σ
inductive WhB (L : Addr) (Inv : Nat → Store → Loc → Store → Prop) (n : Nat) (σ : Store) : Prop
 | mk (n' : Nat) (R : Store) (m m' : Loc) (τ : Store) (l : n' < n) (e : σ = Fm R L m' τ) (s : Sub m m') (h : Inv n' R m τ) : WhB L Inv n σ
inductive ForI (g : G) (h : Heap) (L : Addr) (Inv : Nat → Store → Loc → Store → Prop) (own : Nat → Store) (know : Heap → Prop) (N n : Nat) (s' : Shared) : Prop
 | mk (i : Nat) (R : Store) (m m' : Loc) (τ : Store) (e : n + i = N) (I : Inv i R m τ) (s : Sub m m') (S : SGd g (own i ++ Fm R L m' τ) (Hp s')) (k : Keeps h s'.heap) (kn : know s'.heap) : ForI g h L Inv own know N n s'
noncomputable abbrev WhileB (L : Addr) (Inv : Nat → Store → Loc → Store → Prop) (n : Nat) (Q : Fl → Store → Prop) : Fl → Store → Prop := fun fl σ'' => match fl with
 | .next | .cont => WhB L Inv n σ''
 | .brk => Q .next σ''
 | .ret d => Q (.ret d) σ''
noncomputable abbrev ForB {g : G} {it : Addr} (L : Addr) (Inv : ∀ it, It g it → Nat → Store → Loc → Store → Prop) (I : It g it) (i : Nat) (Q : Fl → Store → Prop) : Fl → Store → Prop := fun fl σ'' => match fl with
 | .next | .cont => AtFm L (I.own (i + 1)) (Inv it I (i + 1)) σ''
 | .brk => Q .next σ''
 | .ret d => Q (.ret d) σ''
theorem Cs {test body pos} {Q : Fl → Store → Prop} (Inv : Nat → Store → Loc → Store → Prop) (n : Nat) (h0 : ∃ R m m' τ, σ = Fm R L m' τ ∧ Sub m m' ∧ Inv n R m τ)
  (turn : ∀ n R m τ, Inv n R m τ → WT g k (Fm R L m τ) env test (TestK g k env body (WhileB L Inv n Q) Q)) : WX g k σ env (.While test body [] pos) Q := by
 refine WX_While (fun n σ => ∃ R m m' τ, σ = Fm R L m' τ ∧ Sub m m' ∧ Inv n R m τ) n h0 fun n σ ⟨R, m, m', τ, e, s, I⟩ => ?_
 subst e
 refine W.mono (W.pre (turn n R m τ I) fun _ S => S.weak s) fun b σ' q => ?_
 cases b
 ·unfold TestK at q; rw [if_neg Bool.false_ne_true] at q ⊢; exact q
 ·unfold TestK at q; rw [if_pos rfl] at q ⊢
  refine W.mono q fun fl σ'' q => ?_
  cases fl with
  | next => obtain ⟨n', R', m', m'', τ', a, b, c, d⟩ := q; exact ⟨n', a, R', m', m'', τ', b, c, d⟩
  | cont => obtain ⟨n', R', m', m'', τ', a, b, c, d⟩ := q; exact ⟨n', a, R', m', m'', τ', b, c, d⟩
  | brk => exact q
  | ret d => exact q
noncomputable abbrev ForBT {g : G} {it : Addr} {target : Expr} (L : Addr) (Inv : ∀ it, ItT g it target → Nat → Store → Loc → Store → Prop) (I : ItT g it target) (i : Nat) (Q : Fl → Store → Prop) : Fl → Store → Prop := fun fl σ'' => match fl with
 | .next | .cont => AtFm L (I.own (i + 1)) (Inv it I (i + 1)) σ''
 | .brk => Q .next σ''
 | .ret d => Q (.ret d) σ''
theorem II {target iter body pos} {Q : Fl → Store → Prop} (Inv : ∀ it, ItT g it target → Nat → Store → Loc → Store → Prop)
  (hi : WE g k σ env iter fun d σ' => ∃ R m m' τ, Sub m m' ∧ IterT2 g k target σ' (Fm R L m' τ) d fun it I => Inv it I 0 R m τ)
  (turn : ∀ it I i R m τ, i < ItT.n (g := g) (it := it) (target := target) I → Inv it I i R m τ → O1 g k EqR (Fm R L m (I.own (i + 1) ++ τ)) (assign target env) (I.item i) (BodyK g k env body (ForBT L Inv I i Q)))
  (src : ∀ it I i R m τ, Inv it I i R m τ → i ≤ ItT.n (g := g) (it := it) (target := target) I ∧ ∀ m', I.src (Fm R L m' τ))
  (fin : ∀ it I R m m' τ, Inv it I (ItT.n (g := g) (it := it) (target := target) I) R m τ → Sub m m' → Q .next (Fm R L m' τ))
  (hs : ∀ x, foldedSetIterable iter env x = pure x := by intro _; rfl) : WX g k σ env (.For target iter body [] pos) Q := fun A r s S => by
 refine wpAny_For (W.run hi r S fun v d σ₁ s₁ i₁ S₁ k₁ ⟨R, m, m₁, τ, hsub, q₁⟩ => ?_) hs
 refine wpAny_mono (q₁ A r s₁ v S₁ i₁) (fun itv s₂ ⟨it, I, e, S₂, k₂, kn, hI⟩ => ?_) fun _ _ e => e
 subst e
 refine codeAny_mono (R := fun r s' => match r with | .ok f => Post g IsFl s.heap Q f s' | .error e => NoE e s') ?_ fun r s' x => by cases r with | ok f => exact x | error e => exact x.elim
 refine codeAny_forLoop_any (ForI g s.heap L (Inv it I) I.own I.know (I.n + 1)) ?_ (I.n + 1) ⟨0, R, m, m₁, τ, rfl, hI, hsub, S₂, k₁.trans k₂, kn⟩
 rintro n s₃ ⟨i, R, m, m₁, τ, hn, hI, hsub, S₃, k₃, kn₃⟩
 obtain ⟨hle, hsrc⟩ := src it I i R m τ hI
 by_cases hlt : i < I.n
 ·refine wpAny_mono (I.next i hlt A _ s₃ r.handled (hsrc m₁) kn₃ S₃) (fun o s₄ ⟨u, e, h₄⟩ => ?_) fun _ _ e => e.elim
  subst e
  dsimp only
  refine wpAny_mono h₄ (fun _ s₄' ⟨iu, S₄, k₄⟩ => ?_) fun _ _ e => e.elim
  refine wpAny_mono (turn it I i R m τ hlt hI A r s₄' u ((S₄.perm (HJ ..)).weak hsub) iu) (fun _ s₅ ⟨_, σ₅, _, S₅, k₅, q₅⟩ => ?_) fun _ _ e => e.elim
  refine wpAny_mono (q₅ A r s₅ S₅) (fun f s₆ ⟨fl, σ₆, x, S₆, k₆, q₆⟩ => ?_) fun _ _ e => e.elim
  have kk : Keeps s.heap s₆.heap := k₃.trans (k₄.trans (k₅.trans k₆))
  cases x with
  | next => obtain ⟨R', m', m'', τ', e, hsub', hI'⟩ := q₆; subst e; exact ⟨n - 1, by omega, i + 1, R', m', m'', τ', by omega, hI', hsub', S₆.perm (HJ ..).symm, kk, I.mono _ _ (k₄.trans (k₅.trans k₆)) kn₃⟩
  | cont => obtain ⟨R', m', m'', τ', e, hsub', hI'⟩ := q₆; subst e; exact ⟨n - 1, by omega, i + 1, R', m', m'', τ', by omega, hI', hsub', S₆.perm (HJ ..).symm, kk, I.mono _ _ (k₄.trans (k₅.trans k₆)) kn₃⟩
  | brk => exact ⟨.next, σ₆, .next, S₆, kk, q₆⟩
  | ret i => exact ⟨_, σ₆, .ret i, S₆, kk, q₆⟩
 ·have : i = I.n := Nat.le_antisymm hle (Nat.not_lt.mp hlt)
  subst this
  refine wpAny_mono (I.stop A _ s₃ r.handled (hsrc m₁) kn₃ S₃) (fun o s₄ ⟨e, S₄, k₄⟩ => ?_) fun _ _ e => e.elim
  subst e
  dsimp only
  exact wpAny_execs_nil ⟨.next, _, .next, S₄, k₃.trans k₄, fin it I R m m₁ τ hI hsub⟩
theorem Dl {target iter body pos} {Q : Fl → Store → Prop} (Inv : ∀ it, It g it → Nat → Store → Loc → Store → Prop)
  (hi : WE g k σ env iter fun d σ' => ∃ R m m' τ, σ' = Fm R L m' τ ∧ Sub m m' ∧ IterO g k σ' d fun it I => Inv it I 0 R m τ)
  (turn : ∀ it I i R m τ, i < It.n (g := g) (it := it) I → Inv it I i R m τ → O1 g k EqR (Fm R L m (I.own (i + 1) ++ τ)) (assign target env) (I.item i) (BodyK g k env body (ForB L Inv I i Q)))
  (src : ∀ it I i R m τ, Inv it I i R m τ → i ≤ It.n (g := g) (it := it) I ∧ ∀ m', I.src (Fm R L m' τ))
  (fin : ∀ it I R m m' τ, Inv it I (It.n (g := g) (it := it) I) R m τ → Sub m m' → Q .next (Fm R L m' τ))
  (hs : ∀ x, foldedSetIterable iter env x = pure x := by intro _; rfl) (ht : ∀ it v, letOwnedTupleGo target it v = pure () := by intro _ _; rfl) : WX g k σ env (.For target iter body [] pos) Q := by
 refine II (L := L) (fun it J i R m τ => ∃ I, J = It.toT target ht I ∧ Inv it I i R m τ) (W.mono hi fun d σ' ⟨R, m, m', τ, e, s, q⟩ => ⟨R, m, m', τ, s, ?_⟩) (fun it J i R m τ hlt ⟨I, e, hI⟩ => ?_) (fun it J i R m τ ⟨I, e, hI⟩ => ?_) (fun it J R m m' τ ⟨I, e, hI⟩ s => ?_) hs
 ·subst e
  exact fun A r s' v S iv => wpAny_mono (q A r s' v S iv) (fun w s' ⟨it, I, a, b, c, d, e⟩ => ⟨it, It.toT target ht I, a, b, c, d, I, rfl, e⟩) fun _ _ e => e
 ·subst e
  intro A r s' v S iv
  refine wpAny_mono (turn it I i R m τ hlt hI A r s' v S iv) (fun x s₂ ⟨b, σ₂, e, S₂, k₂, q₂⟩ => ⟨b, σ₂, e, S₂, k₂, W.mono q₂ fun fl σ'' q => ?_⟩) fun _ _ e => e
  cases fl with
  | next => obtain ⟨R', m', m'', τ', b, c, d⟩ := q; exact ⟨R', m', m'', τ', b, c, I, rfl, d⟩
  | cont => obtain ⟨R', m', m'', τ', b, c, d⟩ := q; exact ⟨R', m', m'', τ', b, c, I, rfl, d⟩
  | brk => exact q
  | ret d => exact q
 ·subst e; exact src it I i R m τ hI
 ·subst e; exact fin it I R m m' τ hI s
end
noncomputable def sL (l : List String) : List Str := l.map Str.ofString
section
variable {g : G} {k : Nat} {σ : Store} {x : Str} {xs : List Str} {Q : V → Store → Prop}
theorem BK (q : Q (.bool (xs.contains x)) σ) : O2 g k Is σ (compareOp .In) (.str x) (.tup (xs.map V.str)) Q := O_inT (by rw [FE]; exact q) (E4 _)
theorem O_ninTS (q : Q (.bool (!xs.contains x)) σ) : O2 g k Is σ (compareOp .NotIn) (.str x) (.tup (xs.map V.str)) Q := O_ninT (by rw [FE]; exact q) (E4 _)
end
theorem GX (P : Params) : (gK P).lookup 162 = some ⟨(.type "tuple"), none, (.seq (List.toArray [(.str (zs "") 364)]) 0), (List.toArray [])⟩ := by kernel_rfl
theorem EC (P : Params) : (gK P).lookup 170 = some ⟨(.type "tuple"), none, (.seq (List.toArray [(.str (zs "") 377)]) 0), (List.toArray [])⟩ := by kernel_rfl
theorem dl_place_for (P : Params) : (gK P).lookup 185 = some ⟨(.type "tuple"), none, (.seq (List.toArray [(Value.int (-1) 401)]) 0), (List.toArray [])⟩ := by kernel_rfl
theorem dl_make (P : Params) : (gK P).lookup 193 = some ⟨(.type "tuple"), none, (.seq (List.toArray [(.str (zs "html") 413)]) 0), (List.toArray [])⟩ := by kernel_rfl
theorem FZ (P : Params) : (gK P).lookup 202 = some ⟨(.type "tuple"), none, (.seq (List.toArray [(.ref 201), (.str (zs "html") 424)]) 0), (List.toArray [])⟩ := by kernel_rfl
theorem IJ (P : Params) : (gK P).lookup 259 = some ⟨(.type "tuple"), none, (.seq (List.toArray [(.str (zs "") 502)]) 0), (List.toArray [])⟩ := by kernel_rfl
theorem ED (P : Params) : (gK P).lookup 461 = some ⟨(.type "tuple"), none, (.seq (List.toArray [(.str (zs "") 773), (.str (zs "") 774), (.ref 460), (.str (zs "") 775)]) 0), (List.toArray [])⟩ := by kernel_rfl
theorem Dt (P : Params) : (gK P).lookup 470 = some ⟨(.type "tuple"), none, (.seq (List.toArray [(.str (zs "html") 788), (.ref 469)]) 0), (List.toArray [])⟩ := by kernel_rfl
theorem EE (P : Params) : (gK P).lookup 499 = some ⟨(.type "tuple"), none, (.seq (List.toArray [(Value.int (-1) 827)]) 0), (List.toArray [])⟩ := by kernel_rfl
theorem HA (P : Params) : (gK P).lookup 577 = some ⟨(.type "tuple"), none, (.seq (List.toArray [(.bool false)]) 0), (List.toArray [])⟩ := by kernel_rfl
theorem et_460 (P : Params) : (gK P).lookup 460 = some (DP [] 0) := by kernel_rfl
theorem et_469 (P : Params) : (gK P).lookup 469 = some (DP [] 0) := by kernel_rfl
theorem kp_OpenStack (P : Params) : keepIn (gK P) (.ref 150) = true := by kernel_rfl
theorem kp_Formatting (P : Params) : keepIn (gK P) (.ref 434) = true := by kernel_rfl
theorem kp_Tree (P : Params) : keepIn (gK P) (.ref 558) = true := by kernel_rfl
theorem kp_Builder (P : Params) : keepIn (gK P) (.ref 636) = true := by kernel_rfl
section
variable {g : G} {k : Nat} {σ : Store} {env : Env}
theorem Bi {x pos} {Q : Bool → Store → Prop} (h : WT g k σ env x Q) : WT g k σ env (.BoolOp .And [x] pos) Q :=
 BO (W.mono h fun b σ' q => AQ (fun e => by subst e; exact WT_and_nil q) (fun e => by subst e; exact q))
theorem F0 {x pos} {Q : Bool → Store → Prop} (h : WT g k σ env x Q) : WT g k σ env (.BoolOp .Or [x] pos) Q :=
 GS (W.mono h fun b σ' q => AQ (fun e => by subst e; exact q) (fun e => by subst e; exact WT_or_nil q))
noncomputable abbrev DetB (c : Bool) (σ : Store) : Bool → Store → Prop := fun b σ' => b = c ∧ σ' = σ
theorem DS {e : Expr} {c : Bool} {A C : Store → Prop} (h : WT g k σ env e (DetB c σ)) (h1 : c = true → A σ) (h2 : c = false → C σ) : WT g k σ env e fun b σ' => if b = true then A σ' else C σ' :=
 W.mono h fun b σ' ⟨e1, e2⟩ => by subst e1; subst e2; exact AQ h1 h2
end
end Mine
namespace Mine
noncomputable abbrev es : Str := zs ""
noncomputable abbrev AU : Str := zs "html"
noncomputable def St.sp (s : St) (x : Int) : Str := s.spaces.getD x.toNat es
noncomputable def St.na (s : St) (x : Int) : Str := s.names.getD x.toNat es
noncomputable def St.cur (s : St) : Int := match s.opn.getLast? with | some x => x | none => -1
noncomputable def St.nmOf (s : St) (x : Int) : Str := if s.sp x = AU then s.na x else es
noncomputable def St.nm (s : St) : Str := match s.opn.getLast? with | some x => s.nmOf x | none => es
noncomputable def St.ishtml (s : St) (x : Int) (n : Str) : Bool := x != -1 && s.sp x == AU && s.na x == n
structure Ok (s : St) : Prop where
 sp : s.spaces.length = s.names.length
 ki : s.kinds.length = s.names.length
 te : s.texts.length = s.names.length
 at_ : s.attrs.length = s.names.length
 aA : s.aA.length = s.names.length
 pa : s.parents.length = s.names.length
 ch : s.children.length = s.names.length
 cA : s.cA.length = s.names.length
 pos : 0 < s.names.length
 opn : ∀ x ∈ s.opn, 0 ≤ x ∧ x < s.names.length
 fmt : ∀ x ∈ s.fmt, x = -1 ∨ (0 ≤ x ∧ x < s.names.length)
 up : ∀ (i : Nat) x, s.parents[i]? = some x → x = -1 ∨ (0 ≤ x ∧ x < i)
 con : ∀ p ∈ s.contents, (0 ≤ p.1 ∧ p.1 < s.names.length) ∧ (0 ≤ p.2 ∧ p.2 < s.names.length)
structure Big (s : St) (b : Nat) : Prop where
 n : s.names.length ≤ b
 opn : s.opn.length ≤ b
 fmt : s.fmt.length ≤ b
 err : s.errors.length ≤ b
 own : s.owners.length ≤ b
 con : s.contents.length ≤ b
 att : ∀ a ∈ s.attrs, a.length ≤ b
 chi : ∀ a ∈ s.children, a.length ≤ b
 small : b ≤ 1000000
theorem line_le {n b : Nat} (h : n ≤ b) (hb : b ≤ 1000000) : n ≤ sizeLine := by rw [sizeLine_eq]; omega
theorem int63 {i : Int} {n b : Nat} (h : i < n) (hn : n ≤ b) (hb : b ≤ 1000000) : i < 2 ^ 63 := by omega
theorem HN {xs : List Str} {x : Int} {n : Nat} (h0 : 0 ≤ x) (h1 : x < n) (hn : xs.length = n) : (xs.map V.str)[x.toNat]? = some (V.str (xs.getD x.toNat es)) := by
 have : x.toNat < xs.length := by omega
 rw [List.getElem?_map, List.getD_eq_getElem?_getD, List.getElem?_eq_getElem this]; rfl
theorem D1 {α : Type} (xs : List α) (h : 0 < xs.length) : ∃ ys x, xs = ys ++ [x] := ⟨xs.dropLast, xs.getLast (by intro e; subst e; simp at h), (List.dropLast_concat_getLast _).symm⟩
section
variable {g : G} {k : Nat} {B : BA} {s : St} {τ : Store} {Q : V → Store → Prop} {b : Nat}
theorem push_spec {n : Int} (hb : s.opn.length ≤ 1000000) (q : Q .none (AE B { s with opn := s.opn ++ [n] } ++ τ)) : Fn g (k + 1) 70 [.ref B.st, .int n] (AE B s ++ τ) Q := by
 refine AN [(zs "node", .int n), (zs "self", .ref B.st)] (FN _) (FT _) (DB (fun _ _ => by kernel_rfl) (by kernel_rfl)) (fun L => ?_) (by decide +kernel) (by kernel_rfl) (by kernel_rfl) (by kernel_rfl)
 conv in stB _ => whnf
 conv in stS _ => whnf
 refine A6 ?_
 refine AI ?_
 refine AH ?_
 refine AC ?_
 refine A4 rfl ?_
 refine B2 ?_
 refine Aq (TyOf.list (BQ _)) F.plainAttrs_list F.slot_list_append F.type_list_append ?_
 refine A5 ?_
 refine A4 rfl ?_
 refine A7 ?_
 refine Aa (u_items (s.opn ++ [n]) (by simp)) (by rw [List.length_map]; exact line_le hb (by decide)) ?_
 refine ⟨rfl, ?_⟩
 refine A8 ?_
 exact AZ (Ak ..) q
theorem IK {o : List Int} {n : Int} (ho : s.opn = o ++ [n]) (hb : s.opn.length ≤ 1000000) (q : Q (.int n) (AE B { s with opn := o } ++ τ)) : Fn g (k + 1) 77 [.ref B.st] (AE B s ++ τ) Q := by
 refine AN [(zs "self", .ref B.st)] (G8 _) (GD _) (Fz (fun _ => by kernel_rfl) (by kernel_rfl)) (fun L => ?_) (by decide +kernel) (by kernel_rfl) (by kernel_rfl) (by kernel_rfl)
 conv in stB _ => whnf
 conv in stS _ => whnf
 refine A6 ?_
 refine AY ?_
 refine AB ?_
 refine Ar (BN _) rfl (by decide) ?_
 refine A5 ?_
 refine AC ?_
 refine A4 rfl ?_
 refine B2 ?_
 refine A7 ?_
 refine BT (BQ _) (by rw [List.length_map]; exact line_le hb (by decide)) ?_
 refine AL ?_
 refine CX ?_
 refine ⟨_, rfl, ?_⟩
 refine CH (by rw [ho]; simp; omega) ?_
 refine A8 ?_
 refine A6 ?_
 refine AG ?_
 refine AH ?_
 refine AC ?_
 refine A4 rfl ?_
 refine B2 ?_
 refine By (TyOf.list (BQ _)) F.plainAttrs_list F.slot_list_pop F.type_list_pop ?_
 refine Cl_pop (ds := o.map V.int) (d := .int n) (by have := u_items (B := B) (s := s) (σ := (L, .ns [(zs "self", .ref B.st)]) :: τ) o rfl; rw [ho] at this; simpa using this) (by rw [List.length_map, sizeLine_eq]; rw [ho] at hb; simp at hb; omega) ?_
 exact AR (Ak ..) q
theorem many_spec (hb : s.opn.length ≤ 1000000) (q : Q (.int s.opn.length) (AE B s ++ τ)) : Fn g (k + 1) 91 [.ref B.st] (AE B s ++ τ) Q := by
 refine AN [(zs "self", .ref B.st)] (FO _) (FU _) (Fz (fun _ => by kernel_rfl) (by kernel_rfl)) (fun L => ?_) (by decide +kernel) (by kernel_rfl) (by kernel_rfl) (by kernel_rfl)
 conv in stB _ => whnf
 conv in stS _ => whnf
 refine A6 ?_
 refine AG ?_
 refine Ar (BN _) rfl (by decide) ?_
 refine A5 ?_
 refine AC ?_
 refine A4 rfl ?_
 refine B2 ?_
 refine A7 ?_
 refine BT (BQ _) (by rw [List.length_map]; exact line_le hb (by decide)) ?_
 rw [List.length_map]
 exact AR (Ak ..) q
theorem has_spec {n : Int} (q : Q (.bool (s.opn.contains n)) (AE B s ++ τ)) : Fn g (k + 1) 98 [.ref B.st, .int n] (AE B s ++ τ) Q := by
 refine AN [(zs "node", .int n), (zs "self", .ref B.st)] (G9 _) (GE _) (DB (fun _ _ => by kernel_rfl) (by kernel_rfl)) (fun L => ?_) (by decide +kernel) (by kernel_rfl) (by kernel_rfl) (by kernel_rfl)
 conv in stB _ => whnf
 conv in stS _ => whnf
 refine A6 ?_
 refine AG ?_
 refine AV ?_
 refine A4 rfl ?_
 refine AC ?_
 refine A4 rfl ?_
 refine B2 ?_
 refine O_inLI (BQ _) ?_
 exact AR (Ak ..) q
theorem Fa (hb : s.opn.length ≤ 1000000) (q : Q (.int s.cur) (AE B s ++ τ)) : Fn g (k + 1) 84 [.ref B.st] (AE B s ++ τ) Q := by
 refine AN [(zs "self", .ref B.st)] (E9 _) (EA _) (Fz (fun _ => by kernel_rfl) (by kernel_rfl)) (fun L => ?_) (by decide +kernel) (by kernel_rfl) (by kernel_rfl) (by kernel_rfl)
 conv in stB _ => whnf
 conv in stS _ => whnf
 refine A6 ?_
 refine AY ?_
 refine AB ?_
 refine Ar (BN _) rfl (by decide) ?_
 refine A5 ?_
 refine AC ?_
 refine A4 rfl ?_
 refine B2 ?_
 refine A7 ?_
 refine BT (BQ _) (by rw [List.length_map]; exact line_le hb (by decide)) ?_
 refine AL ?_
 refine CX ?_
 refine ⟨_, rfl, ?_⟩
 refine AQ (fun h => ?_) (fun h => ?_)
 ·refine A6 ?_
  refine AG ?_
  refine AX ?_
  refine AL ?_
  refine B8 ?_
  have : s.opn = [] := by simpa using h
  unfold St.cur at q; rw [this] at q
  exact AR (Ak ..) q
 ·refine A8 ?_
  refine A6 ?_
  refine AG ?_
  refine AO ?_
  refine AC ?_
  refine A4 rfl ?_
  refine B2 ?_
  refine AP ?_
  refine Ar (BN _) rfl (by decide) ?_
  refine A5 ?_
  refine AC ?_
  refine A4 rfl ?_
  refine B2 ?_
  refine A7 ?_
  refine BT (BQ _) (by rw [List.length_map]; exact line_le hb (by decide)) ?_
  refine AL ?_
  refine Hb ?_
  have hp : 0 < s.opn.length := by
   have : ¬ s.opn = [] := by simpa using h
   exact List.length_pos_iff.mpr this
  obtain ⟨o, n, e⟩ := D1 _ hp
  have ec : s.cur = n := by unfold St.cur; rw [e]; simp
  rw [ec] at q
  refine Ay (d := .int n) (BQ _) (by simp; omega) (by simp; omega) (by rw [e]; simp) ?_
  exact AR (Ak ..) q
end
end Mine
local macro_rules | `(tactic| walk_at "rg") => `(tactic| first | assumption | (exact Mine.int63 ‹_› (Nat.le_refl _) ‹_›) | omega)
local macro_rules | `(tactic| walk_at "sz") => `(tactic| first | exact Mine.sz_lit rfl | assumption | (exact Mine.line_le (by assumption) (by decide)))
local macro_rules | `(tactic| walk_at "mm") => `(tactic| first | assumption | exact List.Mem.head _ | (refine List.Mem.tail _ ?_; walk_at "mm") | (refine List.mem_append_right _ ?_; walk_at "mm") | (refine List.mem_append_left _ ?_; walk_at "mm"))
namespace Mine
theorem Ok.opn' {s : St} (ok : Ok s) {o : List Int} (h : ∀ x ∈ o, x ∈ s.opn) : Ok { s with opn := o } :=
 ⟨ok.sp, ok.ki, ok.te, ok.at_, ok.aA, ok.pa, ok.ch, ok.cA, ok.pos, fun x hx => ok.opn x (h x hx), ok.fmt, ok.up, ok.con⟩
theorem Big.opn' {s : St} {b : Nat} (w : Big s b) {o : List Int} (h : o.length ≤ s.opn.length) : Big { s with opn := o } b :=
 ⟨w.n, Nat.le_trans h w.opn, w.fmt, w.err, w.own, w.con, w.att, w.chi, w.small⟩
section
variable {g : G} {k : Nat} {B : BA} {s : St} {τ : Store} {Q : V → Store → Prop} {b : Nat} {value slice : Expr} {x : Int}
theorem O_sp (ok : Ok s) (h0 : 0 ≤ x) (h1 : x < s.names.length) (w : Big s b) (q : Q (.str (s.sp x)) (AE B s ++ τ)) (hs : ∀ o v, subscripted slice false o v = operate [o, v] (getItem o v) := by intro _ _; with_unfolding_all rfl) :
  O2 g k Is (AE B s ++ τ) (subscriptTail value slice) (.ref B.spaces) (.int x) Q := Ay (FI _) h0 (int63 h1 w.n w.small) (HN h0 h1 ok.sp) q hs
theorem O_na (ok : Ok s) (h0 : 0 ≤ x) (h1 : x < s.names.length) (w : Big s b) (q : Q (.str (s.na x)) (AE B s ++ τ)) (hs : ∀ o v, subscripted slice false o v = operate [o, v] (getItem o v) := by intro _ _; with_unfolding_all rfl) :
  O2 g k Is (AE B s ++ τ) (subscriptTail value slice) (.ref B.names) (.int x) Q := Ay (HL _) h0 (int63 h1 w.n w.small) (HN h0 h1 rfl) q hs
theorem St.cur_mem {s : St} (h : s.cur ≠ -1) : ∃ o, s.opn = o ++ [s.cur] := by
 unfold St.cur at *
 cases e : s.opn.getLast? with
 | none => rw [e] at h; exact absurd rfl h
 | some x => obtain ⟨o, ho⟩ := List.getLast?_eq_some_iff.mp e; exact ⟨o, ho⟩
theorem Ct (ok : Ok s) (w : Big s b) (q : Q (.str s.nm) (AE B s ++ τ)) : Fn g (k + 2) 126 [.ref B.st] (AE B s ++ τ) Q := by
 refine AN [(zs "self", .ref B.st)] (FP _) (FV _) (Fz (fun _ => by kernel_rfl) (by kernel_rfl)) (fun L => ?_) (by decide +kernel) (by kernel_rfl) (by kernel_rfl) (by kernel_rfl)
 conv in stB _ => whnf
 conv in stS _ => whnf
 refine A6 ?_
 refine AD ?_
 refine AH ?_
 refine A4 rfl ?_
 refine BJ (Cd _) (Ba _) (CZ _) rfl ?_
 refine Fa (Nat.le_trans w.opn w.small) ?_
 refine AF ?_
 refine A6 ?_
 refine AY ?_
 refine GS ?_
 refine AB ?_
 refine A4 rfl ?_
 refine AX ?_
 refine AL ?_
 refine B8 ?_
 refine CX ?_
 refine ⟨_, rfl, ?_⟩
 refine AQ (fun h => ?_) (fun h => ?_)
 ·refine DY rfl ?_
  refine A6 ?_
  refine AG ?_
  refine A9 ?_
  have hc : s.cur = -1 := by simpa using h
  have hn : s.nm = es := by
   unfold St.nm St.cur at *
   cases e : s.opn.getLast? with
   | none => rfl
   | some x =>
    rw [e] at hc
    have := ok.opn x (List.mem_of_getLast? e)
    dsimp only at hc; omega
  rw [hn] at q
  exact AR (Ak ..) q
 ·have hc : s.cur ≠ -1 := by simpa using h
  obtain ⟨o, ho⟩ := St.cur_mem hc
  obtain ⟨h0, h1⟩ := ok.opn s.cur (by rw [ho]; simp)
  have hn : s.nm = s.nmOf s.cur := by unfold St.nm; rw [ho]; simp
  rw [hn] at q
  refine F0 ?_
  refine AB ?_
  refine AO ?_
  refine AC ?_
  refine AC ?_
  refine A4 rfl ?_
  refine FL ?_
  refine Bk ?_
  refine A4 rfl ?_
  refine O_sp ok h0 h1 w ?_
  refine A9 ?_
  refine Ej ?_
  refine ⟨_, rfl, ?_⟩
  refine AQ (fun h => ?_) (fun h => ?_)
  ·refine A6 ?_
   refine AG ?_
   refine A9 ?_
   have : s.nmOf s.cur = es := by unfold St.nmOf; rw [if_neg]; intro e; rw [e] at h; revert h; decide
   rw [this] at q
   exact AR (Ak ..) q
  ·refine A8 ?_
   refine A6 ?_
   refine AG ?_
   refine AO ?_
   refine AC ?_
   refine AC ?_
   refine A4 rfl ?_
   refine FL ?_
   refine Be ?_
   refine A4 rfl ?_
   refine O_na ok h0 h1 w ?_
   have : s.nmOf s.cur = s.na s.cur := by unfold St.nmOf; rw [if_pos]; exact (by simpa using h : s.sp s.cur = zs "html")
   rw [this] at q
   exact AR (Ak ..) q
theorem Fb {n : Str} (ok : Ok s) (w : Big s b) (hx : x = -1 ∨ (0 ≤ x ∧ x < s.names.length)) (q : Q (.bool (s.ishtml x n)) (AE B s ++ τ)) : Fn g (k + 1) 555 [.ref B.tr, .int x, .str n] (AE B s ++ τ) Q := by
 refine AN [(zs "name", .str n), (zs "node", .int x), (zs "self", .ref B.tr)] (Gy _) (H6 _) (bnd3 (fun _ _ _ => by kernel_rfl) (by kernel_rfl)) (fun L => ?_) (by decide +kernel) (by kernel_rfl) (by kernel_rfl) (by kernel_rfl)
 conv in stB _ => whnf
 conv in stS _ => whnf
 refine A6 ?_
 refine AG ?_
 refine E2 ?_
 refine AV ?_
 refine A4 rfl ?_
 refine AX ?_
 refine AL ?_
 refine B8 ?_
 refine FD ?_
 refine An ?_
 refine AQ (fun h => ?_) (fun h => ?_)
 ·have hx' : 0 ≤ x ∧ x < s.names.length := by
   rcases hx with e | e
   ·subst e; exact absurd h (by decide)
   ·exact e
  have e1 : (x != -1) = true := by simp; omega
  unfold St.ishtml at q
  rw [e1, Bool.true_and] at q
  refine E2 ?_
  refine AV ?_
  refine AO ?_
  refine AC ?_
  refine A4 rfl ?_
  refine Bk ?_
  refine A4 rfl ?_
  refine O_sp ok hx'.1 hx'.2 w ?_
  refine A9 ?_
  refine B9 ?_
  refine An ?_
  refine AQ (fun h => ?_) (fun h => ?_)
  ·refine BS ?_
   refine AV ?_
   refine AO ?_
   refine AC ?_
   refine A4 rfl ?_
   refine Be ?_
   refine A4 rfl ?_
   refine O_na ok hx'.1 hx'.2 w ?_
   refine A4 rfl ?_
   refine B9 ?_
   rw [show (s.sp x == AU) = true from h, Bool.true_and] at q
   exact AR (Ak ..) q
  ·rw [show (s.sp x == AU) = false from h, Bool.false_and] at q
   refine AR (Ak ..) ?_
   rw [h]; exact q
 ·have hx' : x = -1 := by simpa using h
  subst hx'
  exact AR (Ak ..) q
noncomputable def impliedL : List Str := sL ["dd", "dt", "li", "optgroup", "option", "p", "rb", "rp", "rt", "rtc"]
theorem implied_spec (q : Q (.tup (impliedL.map V.str)) τ) : Fn g (k + 1) 49 [] τ Q := by
 refine AN (R := []) [] (G7 _) (GB _) (bnd0 (by kernel_rfl)) (fun L => ?_) (by decide +kernel) (by kernel_rfl) (by kernel_rfl) (by kernel_rfl)
 conv in stB _ => whnf
 conv in stS _ => whnf
 refine A6 ?_
 refine AG ?_
 refine Ah ?_
 refine A5 ?_
 refine A9 ?_
 refine A5 ?_
 refine A9 ?_
 refine A5 ?_
 refine A9 ?_
 refine A5 ?_
 refine A9 ?_
 refine A5 ?_
 refine A9 ?_
 refine A5 ?_
 refine A9 ?_
 refine A5 ?_
 refine A9 ?_
 refine A5 ?_
 refine A9 ?_
 refine A5 ?_
 refine A9 ?_
 refine A5 ?_
 refine A9 ?_
 refine A7 ?_
 refine ⟨sz_lit rfl, ?_⟩
 exact AR (Ak [] ..) q
noncomputable def headingL : List Str := sL ["h1", "h2", "h3", "h4", "h5", "h6"]
theorem Du {n : Str} (q : Q (.bool (headingL.contains n)) τ) : Fn g (k + 1) 35 [.str n] τ Q := by
 refine AN (R := []) [(zs "name", .str n)] (lk_is_heading _) (cd_is_heading _) (Fz (fun _ => by kernel_rfl) (by kernel_rfl)) (fun L => ?_) (by decide +kernel) (by kernel_rfl) (by kernel_rfl) (by kernel_rfl)
 conv in stB _ => whnf
 conv in stS _ => whnf
 refine A6 ?_
 refine AG ?_
 refine AV ?_
 refine A4 rfl ?_
 refine Ah ?_
 refine A5 ?_
 refine A9 ?_
 refine A5 ?_
 refine A9 ?_
 refine A5 ?_
 refine A9 ?_
 refine A5 ?_
 refine A9 ?_
 refine A5 ?_
 refine A9 ?_
 refine A5 ?_
 refine A9 ?_
 refine A7 ?_
 refine ⟨sz_lit rfl, ?_⟩
 refine BK (xs := sL ["h1", "h2", "h3", "h4", "h5", "h6"]) ?_
 exact AR (Ak [] ..) q
theorem error_spec {e : Str} (hb : s.errors.length ≤ 1000000) (q : Q .none (AE B { s with errors := s.errors ++ [(e, s.mode)] } ++ τ)) : Fn g (k + 1) 591 [.ref B.bd, .str e] (AE B s ++ τ) Q := by
 refine AN [(zs "word", .str e), (zs "self", .ref B.bd)] (GA _) (GF _) (DB (fun _ _ => by kernel_rfl) (by kernel_rfl)) (fun L => ?_) (by decide +kernel) (by kernel_rfl) (by kernel_rfl) (by kernel_rfl)
 conv in stB _ => whnf
 conv in stS _ => whnf
 refine A6 ?_
 refine AI ?_
 refine AH ?_
 refine AC ?_
 refine A4 rfl ?_
 refine Hm ?_
 refine Aq (TyOf.list (m_errors _)) F.plainAttrs_list F.slot_list_append F.type_list_append ?_
 refine A5 ?_
 refine Ah ?_
 refine A5 ?_
 refine A4 rfl ?_
 refine A5 ?_
 refine AC ?_
 refine A4 rfl ?_
 refine Hk ?_
 refine A7 ?_
 refine ⟨sz_lit rfl, ?_⟩
 refine A7 ?_
 refine Aa (u_errors (s.errors ++ [(e, s.mode)]) (by simp [prV])) (by rw [List.length_map]; exact line_le hb (by decide)) ?_
 refine ⟨rfl, ?_⟩
 refine A8 ?_
 exact AZ (Ak ..) q
theorem to_spec {e : Str} (q : Q .none (AE B { s with mode := e } ++ τ)) : Fn g (k + 1) 598 [.ref B.bd, .str e] (AE B s ++ τ) Q := by
 refine AN [(zs "mode", .str e), (zs "self", .ref B.bd)] (lk_Builder_to _) (cd_Builder_to _) (DB (fun _ _ => by kernel_rfl) (by kernel_rfl)) (fun L => ?_) (by decide +kernel) (by kernel_rfl) (by kernel_rfl) (by kernel_rfl)
 conv in stB _ => whnf
 conv in stS _ => whnf
 refine A6 ?_
 refine AK ?_
 refine A4 rfl ?_
 refine A4 rfl ?_
 refine S_b_mode ?_
 refine A8 ?_
 exact AZ (Ak ..) q
end
end Mine
namespace Mine
theorem IL (n : Nat) (hn : n ≤ 1000000) : Builtin.Range.rangeSize ((n : Int) - 1) (-1) (-1) = n ∧ Builtin.Range.small ((n : Int) - 1) (-1) (-1) = true := by
 have h1 : Builtin.Range.rangeSize ((n : Int) - 1) (-1) (-1) = n := by
  unfold Builtin.Range.rangeSize
  rw [if_neg (by decide)]
  split
  ·rw [show -(-1 : Int) = 1 from rfl, Int.ediv_one]; omega
  ·omega
 refine ⟨h1, ?_⟩
 unfold Builtin.Range.small
 rw [h1]
 simp only [Builtin.Range.rangeFitsLong, Bool.and_eq_true, Bool.or_eq_true, decide_eq_true_eq]
 have e : (2:Int) ^ 63 = 9223372036854775808 := by decide
 refine ⟨⟨⟨⟨?_, ?_⟩, ?_⟩, ?_⟩, ?_⟩ <;> first | decide | (constructor <;> omega) | omega | skip
 right; rw [if_neg (by decide)]; decide
noncomputable def St.stops (s : St) (x : Int) (sort : Str) : Bool :=
 if sort == zs "select" then s.sp x != AU || !(sL ["optgroup", "option"]).contains (s.na x)
 else if sort == zs "table" then s.sp x == AU && (sL ["html", "table", "template"]).contains (s.na x)
 else if s.sp x == zs "math" then (sL ["mi", "mo", "mn", "ms", "mtext", "annotation-xml"]).contains (s.na x)
 else if s.sp x == zs "svg" then (sL ["foreignObject", "desc", "title"]).contains (s.na x)
 else if (sL ["applet", "caption", "html", "table", "td", "th", "marquee", "object", "template"]).contains (s.na x) then true
 else if sort == zs "list item" then (sL ["ol", "ul"]).contains (s.na x)
 else sort == zs "button" && s.na x == zs "button"
noncomputable def St.scope (s : St) (ns : List Str) (sort : Str) : List Int → Bool
 | [] => false
 | x :: r => if s.sp x == AU && ns.contains (s.na x) then true else if s.stops x sort then false else s.scope ns sort r
noncomputable def St.popI (s : St) (but : Str) : List Int → List Int
 | [] => []
 | x :: r => if impliedL.contains (s.nmOf x) && s.nmOf x != but then s.popI but r else x :: r
noncomputable def St.popU (s : St) (ns : List Str) : List Int → List Int
 | [] => []
 | x :: r => if ns.contains (s.nmOf x) then r else s.popU ns r
theorem St.popU_cons (s : St) (ns : List Str) (x : Int) (r : List Int) : s.popU ns (x :: r) = if ns.contains (s.nmOf x) then r else s.popU ns r := rfl
theorem St.popI_cons (s : St) (but : Str) (x : Int) (r : List Int) : s.popI but (x :: r) = if impliedL.contains (s.nmOf x) && s.nmOf x != but then s.popI but r else x :: r := rfl
theorem St.scope_cons (s : St) (ns : List Str) (sort : Str) (x : Int) (r : List Int) : s.scope ns sort (x :: r) = if s.sp x == AU && ns.contains (s.na x) then true else if s.stops x sort then false else s.scope ns sort r := rfl
noncomputable def St.hasName (s : St) (n : Str) : Bool := s.opn.any fun x => s.ishtml x n
section
variable {g : G} {k : Nat} {B : BA} {s : St} {τ : Store} {Q : V → Store → Prop} {b : Nat} {x : Int}
theorem stops_spec {sort : Str} (ok : Ok s) (w : Big s b) (h0 : 0 ≤ x) (h1 : x < s.names.length) (q : Q (.bool (s.stops x sort)) (AE B s ++ τ)) : Fn g (k + 1) 161 [.ref B.tr, .int x, .str sort] (AE B s ++ τ) Q := by
 refine AN [(zs "sort", .str sort), (zs "node", .int x), (zs "tree", .ref B.tr)] (Ho _) (I0 _) (bnd3 (fun _ _ _ => by kernel_rfl) (by kernel_rfl)) (fun L => ?_) (by decide +kernel) (by kernel_rfl) (by kernel_rfl) (by kernel_rfl)
 conv in stB _ => whnf
 conv in stS _ => whnf
 refine A6 ?_
 refine AD ?_
 refine AO ?_
 refine AC ?_
 refine A4 rfl ?_
 refine Bk ?_
 refine A4 rfl ?_
 refine O_sp ok h0 h1 w ?_
 refine AF ?_
 refine A6 ?_
 refine AD ?_
 refine AO ?_
 refine AC ?_
 refine A4 rfl ?_
 refine Be ?_
 refine A4 rfl ?_
 refine O_na ok h0 h1 w ?_
 refine AF ?_
 refine A6 ?_
 refine AY ?_
 refine AB ?_
 refine A4 rfl ?_
 refine A9 ?_
 refine B9 ?_
 refine ⟨_, rfl, ?_⟩
 unfold St.stops at q
 refine AQ (fun h => ?_) (fun h => ?_)
 ·rw [if_pos h] at q
  refine A6 ?_
  refine AG ?_
  refine WE_or ?_
  refine AV ?_
  refine A4 rfl ?_
  refine A9 ?_
  refine Ej ?_
  refine An ?_
  refine AQ (fun h2 => ?_) (fun h2 => ?_)
  ·rw [show (s.sp x != AU) = true from h2, Bool.true_or] at q
   refine AR (Ak ..) ?_
   rw [show (s.sp x != zs "html") = true from h2]; exact q
  ·rw [show (s.sp x != AU) = false from h2, Bool.false_or] at q
   refine BS ?_
   refine AV ?_
   refine A4 rfl ?_
   refine Ah ?_
   refine A5 ?_
   refine A9 ?_
   refine A5 ?_
   refine A9 ?_
   refine A7 ?_
   refine ⟨sz_lit rfl, ?_⟩
   refine O_ninTS (xs := sL ["optgroup", "option"]) ?_
   exact AR (Ak ..) q
 rw [if_neg (by rw [h]; decide)] at q
 refine A8 ?_
 refine A6 ?_
 refine AY ?_
 refine AB ?_
 refine A4 rfl ?_
 refine A9 ?_
 refine B9 ?_
 refine ⟨_, rfl, ?_⟩
 refine AQ (fun h => ?_) (fun h => ?_)
 ·rw [if_pos h] at q
  refine A6 ?_
  refine AG ?_
  refine E2 ?_
  refine AV ?_
  refine A4 rfl ?_
  refine A9 ?_
  refine B9 ?_
  refine An ?_
  refine AQ (fun h2 => ?_) (fun h2 => ?_)
  ·rw [show (s.sp x == AU) = true from h2, Bool.true_and] at q
   refine BS ?_
   refine AV ?_
   refine A4 rfl ?_
   refine Ah ?_
   refine A5 ?_
   refine A9 ?_
   refine A5 ?_
   refine A9 ?_
   refine A5 ?_
   refine A9 ?_
   refine A7 ?_
   refine ⟨sz_lit rfl, ?_⟩
   refine BK (xs := sL ["html", "table", "template"]) ?_
   exact AR (Ak ..) q
  ·rw [show (s.sp x == AU) = false from h2, Bool.false_and] at q
   refine AR (Ak ..) ?_
   rw [h2]; exact q
 rw [if_neg (by rw [h]; decide)] at q
 refine A8 ?_
 refine A6 ?_
 refine AY ?_
 refine AB ?_
 refine A4 rfl ?_
 refine A9 ?_
 refine B9 ?_
 refine ⟨_, rfl, ?_⟩
 refine AQ (fun h => ?_) (fun h => ?_)
 ·rw [if_pos h] at q
  refine A6 ?_
  refine AG ?_
  refine AV ?_
  refine A4 rfl ?_
  refine Ah ?_
  refine A5 ?_
  refine A9 ?_
  refine A5 ?_
  refine A9 ?_
  refine A5 ?_
  refine A9 ?_
  refine A5 ?_
  refine A9 ?_
  refine A5 ?_
  refine A9 ?_
  refine A5 ?_
  refine A9 ?_
  refine A7 ?_
  refine ⟨sz_lit rfl, ?_⟩
  refine BK (xs := sL ["mi", "mo", "mn", "ms", "mtext", "annotation-xml"]) ?_
  exact AR (Ak ..) q
 rw [if_neg (by rw [h]; decide)] at q
 refine A8 ?_
 refine A6 ?_
 refine AY ?_
 refine AB ?_
 refine A4 rfl ?_
 refine A9 ?_
 refine B9 ?_
 refine ⟨_, rfl, ?_⟩
 refine AQ (fun h => ?_) (fun h => ?_)
 ·rw [if_pos h] at q
  refine A6 ?_
  refine AG ?_
  refine AV ?_
  refine A4 rfl ?_
  refine Ah ?_
  refine A5 ?_
  refine A9 ?_
  refine A5 ?_
  refine A9 ?_
  refine A5 ?_
  refine A9 ?_
  refine A7 ?_
  refine ⟨sz_lit rfl, ?_⟩
  refine BK (xs := sL ["foreignObject", "desc", "title"]) ?_
  exact AR (Ak ..) q
 rw [if_neg (by rw [h]; decide)] at q
 refine A8 ?_
 refine A6 ?_
 refine AY ?_
 refine AB ?_
 refine A4 rfl ?_
 refine Ah ?_
 refine A5 ?_
 refine A9 ?_
 refine A5 ?_
 refine A9 ?_
 refine A5 ?_
 refine A9 ?_
 refine A5 ?_
 refine A9 ?_
 refine A5 ?_
 refine A9 ?_
 refine A5 ?_
 refine A9 ?_
 refine A5 ?_
 refine A9 ?_
 refine A5 ?_
 refine A9 ?_
 refine A5 ?_
 refine A9 ?_
 refine A7 ?_
 refine ⟨sz_lit rfl, ?_⟩
 refine BK (xs := sL ["applet", "caption", "html", "table", "td", "th", "marquee", "object", "template"]) ?_
 refine ⟨_, rfl, ?_⟩
 refine AQ (fun h => ?_) (fun h => ?_)
 ·rw [if_pos h] at q
  refine A6 ?_
  refine AG ?_
  refine As ?_
  exact AR (Ak ..) q
 rw [if_neg (by rw [h]; decide)] at q
 refine A8 ?_
 refine A6 ?_
 refine AY ?_
 refine AB ?_
 refine A4 rfl ?_
 refine A9 ?_
 refine B9 ?_
 refine ⟨_, rfl, ?_⟩
 refine AQ (fun h => ?_) (fun h => ?_)
 ·rw [if_pos h] at q
  refine A6 ?_
  refine AG ?_
  refine AV ?_
  refine A4 rfl ?_
  refine Ah ?_
  refine A5 ?_
  refine A9 ?_
  refine A5 ?_
  refine A9 ?_
  refine A7 ?_
  refine ⟨sz_lit rfl, ?_⟩
  refine BK (xs := sL ["ol", "ul"]) ?_
  exact AR (Ak ..) q
 rw [if_neg (by rw [h]; decide)] at q
 refine A8 ?_
 refine A6 ?_
 refine AG ?_
 refine E2 ?_
 refine AV ?_
 refine A4 rfl ?_
 refine A9 ?_
 refine B9 ?_
 refine An ?_
 refine AQ (fun h2 => ?_) (fun h2 => ?_)
 ·rw [h2, Bool.true_and] at q
  refine BS ?_
  refine AV ?_
  refine A4 rfl ?_
  refine A9 ?_
  refine B9 ?_
  exact AR (Ak ..) q
 ·rw [h2, Bool.false_and] at q
  refine AR (Ak ..) ?_
  rw [h2]; exact q
theorem Em {n : Str} (ok : Ok s) (w : Big s b) (q : Q (.bool (s.hasName n)) (AE B s ++ τ)) : Fn g (k + 2) 133 [.ref B.st, .str n] (AE B s ++ τ) Q := by
 refine AN [(zs "name", .str n), (zs "self", .ref B.st)] (Dz _) (E0 _) (DB (fun _ _ => by kernel_rfl) (by kernel_rfl)) (fun L => ?_) (by decide +kernel) (by kernel_rfl) (by kernel_rfl) (by kernel_rfl)
 conv in stB _ => whnf
 conv in stS _ => whnf
 refine A6 ?_
 refine Dl (L := L) (fun it I i R m τ' => C6 (I = itL g it B.items (s.opn.map V.int)) (i ≤ s.opn.length) (R = AE B s) (m = [(zs "name", .str n), (zs "self", .ref B.st)]) (τ' = τ) ((s.opn.take i).any (fun x => s.ishtml x n) = false)) ?_ ?_ ?_ ?_
 ·refine AC ?_
  refine A4 rfl ?_
  refine B2 ?_
  refine ⟨_, _, _, _, rfl, Sub.refl _, CQ (BQ _) fun it => ⟨rfl, Nat.zero_le _, rfl, rfl, rfl, rfl⟩⟩
 ·rintro it I i R m τ' hlt ⟨rfl, hle, rfl, rfl, rfl, hno⟩
  have hlt' : i < s.opn.length := by simpa [itL] using hlt
  have hi : (itL g it B.items (s.opn.map V.int)).item i = .int s.opn[i] := by
   show (s.opn.map V.int).getD i .none = _
   rw [List.getD_eq_getElem?_getD, List.getElem?_map, List.getElem?_eq_getElem hlt']; rfl
  rw [hi]
  refine AT ?_
  refine AF ?_
  refine A6 ?_
  refine AY ?_
  refine B7 ?_
  refine AH ?_
  refine AC ?_
  refine A4 rfl ?_
  refine FL ?_
  refine Ag (DQ _) (Bw _) (Ds _) rfl ?_
  refine A5 ?_
  refine A4 rfl ?_
  refine A5 ?_
  refine A4 rfl ?_
  refine A7 ?_
  refine Fb ok w (.inr (ok.opn _ (List.getElem_mem _))) ?_
  refine An ?_
  refine AQ (fun h => ?_) (fun h => ?_)
  ·refine A6 ?_
   refine AG ?_
   refine As ?_
   rw [show s.hasName n = true from List.any_eq_true.mpr ⟨_, List.getElem_mem hlt', h⟩] at q
   refine AR ?_ q
   exact sub2 ..
  ·refine A8 ?_
   refine A8 ?_
   refine ⟨_, _, _, _, rfl, Sub.cons rfl (Sub.cons rfl .nil), rfl, hlt', rfl, rfl, rfl, ?_⟩
   rw [List.take_succ, List.any_append, hno, List.getElem?_eq_getElem hlt']
   simp [h]
 ·rintro it I i R m τ' ⟨rfl, hle, rfl, rfl, rfl, hno⟩
  exact ⟨by simpa [itL] using hle, fun m' => BQ _⟩
 ·rintro it I R m m' τ' ⟨rfl, hle, rfl, rfl, rfl, hno⟩ hs
  refine A6 ?_
  refine AG ?_
  refine As ?_
  rw [show s.hasName n = false by
   have : (s.opn.take (s.opn.map V.int).length).any (fun x => s.ishtml x n) = false := hno
   rw [List.length_map, List.take_length] at this; exact this] at q
  exact AR (Ak ..) q
theorem IM {ns : List Str} (ok : Ok s) (w : Big s b) (q : ∀ v, v.drops = true → Q v (AE B { s with opn := (s.popU ns s.opn.reverse).reverse } ++ τ)) : Fn g (k + 3) 140 [.ref B.st, .tup (ns.map V.str)] (AE B s ++ τ) Q := by
 refine AN [(zs "names", .tup (ns.map V.str)), (zs "self", .ref B.st)] (Di _) (Dj _) (DB (fun _ _ => by kernel_rfl) (by kernel_rfl)) (fun L => ?_) (by decide +kernel) (by kernel_rfl) (by kernel_rfl) (by kernel_rfl)
 conv in stB _ => whnf
 conv in stS _ => whnf
 refine A6 ?_
 refine Cs (L := L) (fun n R m τ' => ∃ o : List Int, C7 (n = o.length) (R = AE B { s with opn := o }) (m = [(zs "names", .tup (ns.map V.str)), (zs "self", .ref B.st)]) (τ' = τ) (s.popU ns o.reverse = s.popU ns s.opn.reverse) (o.length ≤ s.opn.length) (∀ x ∈ o, x ∈ s.opn)) s.opn.length ⟨_, _, _, _, rfl, Sub.refl _, s.opn, rfl, rfl, rfl, rfl, rfl, Nat.le_refl _, fun _ h => h⟩ ?_
 rintro n R m τ' ⟨o, rfl, rfl, rfl, rfl, he, hl, hm⟩
 have ok' := ok.opn' hm
 have w' := w.opn' hl
 refine AB ?_
 refine Ar (BN _) rfl (by decide) ?_
 refine A5 ?_
 refine AC ?_
 refine A4 rfl ?_
 refine B2 ?_
 refine A7 ?_
 refine BT (BQ _) (by rw [List.length_map]; exact line_le w'.opn w.small) ?_
 refine AL ?_
 refine O_gtI ?_
 refine ⟨_, rfl, ?_⟩
 refine AQ (fun h => ?_) (fun h => ?_)
 ·refine A6 ?_
  refine AD ?_
  refine AH ?_
  refine A4 rfl ?_
  refine BJ (Cd _) (Ba _) (BE _) rfl ?_
  refine Ct ok' w' ?_
  refine AF ?_
  refine A6 ?_
  refine AD ?_
  refine AH ?_
  refine AC ?_
  refine A4 rfl ?_
  refine B2 ?_
  refine By (TyOf.list (BQ _)) F.plainAttrs_list F.slot_list_pop F.type_list_pop ?_
  have hp : 0 < o.length := by simpa using h
  obtain ⟨p, n, e⟩ := D1 _ hp
  subst e
  have hn : St.nm { s with opn := p ++ [n] } = s.nmOf n := by unfold St.nm; simp; rfl
  rw [hn]
  have hz := Nat.le_trans w'.opn w.small
  refine Cl_pop (ds := p.map V.int) (d := .int n) (by
   have := u_items (B := B) (s := { s with opn := p ++ [n] }) (σ := (L, .ns [(zs "name", .str (s.nmOf n)), (zs "names", .tup (ns.map V.str)), (zs "self", .ref B.st)]) :: τ') p rfl
   simpa using this) (by rw [List.length_map, sizeLine_eq]; simp at hz; omega) ?_
  refine AF ?_
  refine A6 ?_
  refine AY ?_
  refine AB ?_
  refine A4 rfl ?_
  refine A4 rfl ?_
  refine BK ?_
  refine ⟨_, rfl, ?_⟩
  rw [List.reverse_append, List.reverse_cons, List.reverse_nil, List.nil_append, List.cons_append, List.nil_append] at he
  rw [St.popU_cons] at he
  refine AQ (fun h => ?_) (fun h => ?_)
  ·refine A6 ?_
   refine AG ?_
   refine A4 rfl ?_
   rw [if_pos h] at he
   refine AR (Ak ..) ?_
   have := q (.int n) rfl
   rw [← he, List.reverse_reverse] at this
   exact this
  ·refine A8 ?_
   refine A8 ?_
   rw [if_neg (by rw [h]; decide)] at he
   refine ⟨_, _, _, _, _, ?_, rfl, Sub.cons rfl (Sub.cons rfl .nil), p, rfl, rfl, rfl, rfl, he, by simp at hl; omega, fun x hx => hm x (by simp [hx])⟩
   simp
 ·have e : o = [] := by simpa using h
  subst e
  refine A6 ?_
  refine AG ?_
  refine AX ?_
  refine AL ?_
  refine B8 ?_
  refine AR (Ak ..) ?_
  have := q (.int (-1)) rfl
  rw [← he] at this
  exact this
end
end Mine
namespace Mine
theorem revDrop {o : List Int} {i : Nat} (h : i < o.length) : o.reverse.drop i = o[o.length - 1 - i] :: o.reverse.drop (i + 1) := by
 have h' : i < o.reverse.length := by rw [List.length_reverse]; exact h
 rw [List.drop_eq_getElem_cons h', List.getElem_reverse]
theorem itemI {o : List Int} {x : Int} {i : Nat} (h : i < o.length) (e : x = i) : (o.map V.int)[x.toNat]? = some (V.int o[i]) := by
 subst e
 rw [Int.toNat_natCast, List.getElem?_map, List.getElem?_eq_getElem h]; rfl
section
variable {g : G} {k : Nat} {B : BA} {s : St} {τ : Store} {Q : V → Store → Prop} {b : Nat} {x : Int}
theorem pop_spec' {but : Str} (w : s.opn.length ≤ 1000000) (h : s.opn ≠ []) (q : ∀ v, v.drops = true → Q v (AE B { s with opn := s.opn.dropLast } ++ τ)) : Fn g (k + 1) 77 [.ref B.st] (AE B s ++ τ) Q := by
 obtain ⟨o, n, e⟩ := D1 s.opn (List.length_pos_iff.mpr h)
 refine IK e w ?_
 have := q (.int n) rfl
 rw [e, List.dropLast_concat] at this
 exact this
theorem DZ {but : Str} {ds : List V} (ok : Ok s) (w : Big s b)
  (bn : Bnd g (fnOf (zs "pop_implied") (zs "pop_implied") (stA (tS 10)) (stB (tS 10)) (stS (tS 10)) (.ref 170) .none .none (.str (zs "htmltree.openstack") 224) none (.ref 176) .none) ds [(zs "but", .str but), (zs "stack", .ref B.st)])
  (q : Q .none (AE B { s with opn := (s.popI but s.opn.reverse).reverse } ++ τ)) : Fn g (k + 4) 177 ds (AE B s ++ τ) Q := by
 refine AN [(zs "but", .str but), (zs "stack", .ref B.st)] (Hq _) (I2 _) bn (fun L => ?_) (by decide +kernel) (by kernel_rfl) (by kernel_rfl) (by kernel_rfl)
 conv in stB _ => whnf
 conv in stS _ => whnf
 refine A6 ?_
 refine AD ?_
 refine ET (Fx _) (GC _) ?_
 refine implied_spec ?_
 refine AF ?_
 refine A6 ?_
 refine Cs (L := L) (fun n R m τ' => ∃ o : List Int, C7 (n = o.length) (R = AE B { s with opn := o }) (m = [(zs "names", .tup (impliedL.map V.str)), (zs "but", .str but), (zs "stack", .ref B.st)]) (τ' = τ) (s.popI but o.reverse = s.popI but s.opn.reverse) (o.length ≤ s.opn.length) (∀ x ∈ o, x ∈ s.opn)) s.opn.length ⟨_, _, _, _, rfl, Sub.refl _, s.opn, rfl, rfl, rfl, rfl, rfl, Nat.le_refl _, fun _ h => h⟩ ?_
 rintro n R m τ' ⟨o, rfl, rfl, rfl, rfl, he, hl, hm⟩
 have ok' := ok.opn' hm
 have w' := w.opn' hl
 refine BO ?_
 refine AB ?_
 refine AH ?_
 refine A4 rfl ?_
 refine BJ (Cd _) (Ba _) (BE _) rfl ?_
 refine Ct ok' w' ?_
 refine A4 rfl ?_
 refine BK ?_
 refine ⟨_, rfl, ?_⟩
 have hnil : ∀ (h : o = []), BC Q .next (Fm (AE B { s with opn := o }) L [(zs "names", .tup (impliedL.map V.str)), (zs "but", .str but), (zs "stack", .ref B.st)] τ') := by
  intro h
  subst h
  have e : s.popI but s.opn.reverse = [] := he.symm
  rw [e] at q
  exact AZ (Ak ..) q
 have hcons : ∀ p n, o = p ++ [n] → St.nm { s with opn := o } = s.nmOf n ∧ o.reverse = n :: p.reverse := by
  rintro p n rfl
  exact ⟨by unfold St.nm; simp; rfl, by simp⟩
 have hstop : (impliedL.contains (St.nm { s with opn := o }) && St.nm { s with opn := o } != but) = false → BC Q .next (Fm (AE B { s with opn := o }) L [(zs "names", .tup (impliedL.map V.str)), (zs "but", .str but), (zs "stack", .ref B.st)] τ') := by
  intro h
  by_cases ho : o = []
  ·exact hnil ho
  obtain ⟨p, n, e⟩ := D1 o (List.length_pos_iff.mpr ho)
  obtain ⟨e1, e2⟩ := hcons p n e
  rw [e1] at h
  rw [e2, St.popI_cons, if_neg (by rw [h]; decide)] at he
  rw [← he, ← e2, List.reverse_reverse] at q
  exact AZ (Ak ..) q
 refine AQ (fun h => ?_) (fun h => ?_)
 ·refine Bi ?_
  refine AB ?_
  refine AH ?_
  refine A4 rfl ?_
  refine BJ (Cd _) (Ba _) (BE _) rfl ?_
  refine Ct ok' w' ?_
  refine A4 rfl ?_
  refine Ej ?_
  refine ⟨_, rfl, ?_⟩
  refine AQ (fun h2 => ?_) (fun h2 => ?_)
  ·refine A6 ?_
   refine AI ?_
   refine AH ?_
   refine A4 rfl ?_
   refine BJ (Cd _) (Ba _) (CS _) rfl ?_
   have ho : o ≠ [] := by
    intro e; subst e; rw [show St.nm { s with opn := [] } = es from rfl] at h; revert h; decide
   obtain ⟨p, n, e⟩ := D1 o (List.length_pos_iff.mpr ho)
   obtain ⟨e1, e2⟩ := hcons p n e
   rw [e1] at h h2
   rw [e2, St.popI_cons, if_pos (by rw [h, h2]; rfl)] at he
   subst e
   refine IK (o := p) (n := n) rfl (Nat.le_trans w'.opn w.small) ?_
   refine ⟨rfl, ?_⟩
   refine A8 ?_
   exact ⟨_, _, _, _, _, by simp, rfl, Sub.refl _, p, rfl, rfl, rfl, rfl, he, by simp at hl; omega, fun x hx => hm x (by simp [hx])⟩
  ·refine A8 ?_
   exact hstop (by rw [h, h2]; rfl)
 ·refine CH rfl ?_
  refine A8 ?_
  exact hstop (by rw [h]; rfl)
theorem GH {but : Str} (ok : Ok s) (w : Big s b) (q : Q .none (AE B { s with opn := (s.popI but s.opn.reverse).reverse } ++ τ)) : Fn g (k + 4) 177 [.ref B.st, .str but] (AE B s ++ τ) Q :=
 DZ ok w (bndD2 (mex := []) (ex := []) rfl (EC _) rfl (fun _ _ => rfl) (fun _ _ => by kernel_rfl) (fun _ _ => .nil) (by kernel_rfl)) q
theorem Fc (ok : Ok s) (w : Big s b) (q : Q .none (AE B { s with opn := (s.popI es s.opn.reverse).reverse } ++ τ)) : Fn g (k + 4) 177 [.ref B.st] (AE B s ++ τ) Q :=
 DZ (but := es) ok w (bndD1 (mex := [(zs "but", .str es)]) (ex := [(zs "but", .str (zs "") 377)]) rfl (EC _) rfl (fun _ => rfl) (fun _ => by kernel_rfl) (fun _ _ => .cons (.str _ _) .nil) (by kernel_rfl)) q
end
end Mine
namespace Mine
noncomputable def St.at (s : St) (x : Int) : List (Str × Str) := s.attrs.getD x.toNat []
noncomputable def St.kid (s : St) (x : Int) : List Int := s.children.getD x.toNat []
noncomputable def St.par (s : St) (x : Int) : Int := s.parents.getD x.toNat (-1)
noncomputable def St.val (s : St) (x : Int) (n : Str) : V := match (s.at x).find? (fun p => p.1 == n) with | some p => .str p.2 | none => .none
section
variable {g : G} {k : Nat} {B : BA} {s : St} {τ : Store} {Q : V → Store → Prop} {b : Nat} {x : Int} {value slice : Expr}
theorem O_pa (ok : Ok s) (h0 : 0 ≤ x) (h1 : x < s.names.length) (w : Big s b) (q : Q (.int (s.par x)) (AE B s ++ τ)) (hs : ∀ o v, subscripted slice false o v = operate [o, v] (getItem o v) := by intro _ _; with_unfolding_all rfl) :
  O2 g k Is (AE B s ++ τ) (subscriptTail value slice) (.ref B.parents) (.int x) Q := Ay (EV _) h0 (int63 h1 w.n w.small) (by
   have : x.toNat < s.parents.length := by rw [ok.pa]; omega
   rw [List.getElem?_map, List.getElem?_eq_getElem this]; unfold St.par; rw [List.getD_eq_getElem?_getD, List.getElem?_eq_getElem this]; rfl) q hs
theorem O_aA (ok : Ok s) (h0 : 0 ≤ x) (h1 : x < s.names.length) (w : Big s b) (q : Q (.ref (s.aA.getD x.toNat 0)) (AE B s ++ τ)) (hs : ∀ o v, subscripted slice false o v = operate [o, v] (getItem o v) := by intro _ _; with_unfolding_all rfl) :
  O2 g k Is (AE B s ++ τ) (subscriptTail value slice) (.ref B.attrs) (.int x) Q := Ay (HM _) h0 (int63 h1 w.n w.small) (by
   have : x.toNat < s.aA.length := by rw [ok.aA]; omega
   rw [List.getElem?_map, List.getElem?_eq_getElem this, List.getD_eq_getElem?_getD, List.getElem?_eq_getElem this]; rfl) q hs
theorem O_cA (ok : Ok s) (h0 : 0 ≤ x) (h1 : x < s.names.length) (w : Big s b) (q : Q (.ref (s.cA.getD x.toNat 0)) (AE B s ++ τ)) (hs : ∀ o v, subscripted slice false o v = operate [o, v] (getItem o v) := by intro _ _; with_unfolding_all rfl) :
  O2 g k Is (AE B s ++ τ) (subscriptTail value slice) (.ref B.children) (.int x) Q := Ay (Dh _) h0 (int63 h1 w.n w.small) (by
   have : x.toNat < s.cA.length := by rw [ok.cA]; omega
   rw [List.getElem?_map, List.getElem?_eq_getElem this, List.getD_eq_getElem?_getD, List.getElem?_eq_getElem this]; rfl) q hs
theorem Ca {α β γ : Type} (f : α → β → γ) : ∀ (xs : List α) (ys : List β) (i : Nat) (a : α) (c : β), xs[i]? = some a → ys[i]? = some c → f a c ∈ List.zipWith f xs ys
 | [], _, _, _, _, h, _ => by simp at h
 | _ :: _, [], _, _, _, _, h => by simp at h
 | x :: xs, y :: ys, 0, a, c, h1, h2 => by cases h1; cases h2; exact .head _
 | x :: xs, y :: ys, i + 1, a, c, h1, h2 => .tail _ (Ca f xs ys i a c (by simpa using h1) (by simpa using h2))
theorem m_at (ok : Ok s) (h0 : 0 ≤ x) (h1 : x < s.names.length) : (s.aA.getD x.toNat 0, Cell.list ((s.at x).map prV)) ∈ AE B s ++ τ := by
 refine List.mem_append_left _ (List.mem_append_right _ (List.mem_append_left _ ?_))
 have a1 : x.toNat < s.aA.length := by rw [ok.aA]; omega
 have a2 : x.toNat < s.attrs.length := by rw [ok.at_]; omega
 refine Ca _ _ _ x.toNat _ (s.at x) ?_ ?_
 ·rw [List.getD_eq_getElem?_getD, List.getElem?_eq_getElem a1]; rfl
 ·unfold St.at; rw [List.getD_eq_getElem?_getD, List.getElem?_eq_getElem a2]; rfl
theorem m_kid (ok : Ok s) (h0 : 0 ≤ x) (h1 : x < s.names.length) : (s.cA.getD x.toNat 0, Cell.list ((s.kid x).map V.int)) ∈ AE B s ++ τ := by
 refine List.mem_append_left _ (List.mem_append_right _ (List.mem_append_right _ ?_))
 have a1 : x.toNat < s.cA.length := by rw [ok.cA]; omega
 have a2 : x.toNat < s.children.length := by rw [ok.ch]; omega
 refine Ca _ _ _ x.toNat _ (s.kid x) ?_ ?_
 ·rw [List.getD_eq_getElem?_getD, List.getElem?_eq_getElem a1]; rfl
 ·unfold St.kid; rw [List.getD_eq_getElem?_getD, List.getElem?_eq_getElem a2]; rfl
theorem En {ns : List Str} {sort : Str} {ds : List V} (ok : Ok s) (w : Big s b)
  (bn : Bnd g (fnOf (zs "in_scope") (zs "in_scope") (stA (tS 9)) (stB (tS 9)) (stS (tS 9)) (.ref 162) .none .none (.str (zs "htmltree.openstack") 224) none (.ref 168) .none) ds [(zs "sort", .str sort), (zs "names", .tup (ns.map V.str)), (zs "stack", .ref B.st)])
  (q : Q (.bool (s.scope ns sort s.opn.reverse)) (AE B s ++ τ)) : Fn g (k + 3) 169 ds (AE B s ++ τ) Q := by
 refine AN [(zs "sort", .str sort), (zs "names", .tup (ns.map V.str)), (zs "stack", .ref B.st)] (lk_in_scope _) (cd_in_scope _) bn (fun L => ?_) (by decide +kernel) (by kernel_rfl) (by kernel_rfl) (by kernel_rfl)
 conv in stB _ => whnf
 conv in stS _ => whnf
 refine A6 ?_
 refine AD ?_
 refine AC ?_
 refine A4 rfl ?_
 refine FL ?_
 refine AF ?_
 refine A6 ?_
 refine Dl (L := L) (fun it I i R m τ' => C6 (I = itR g it ((s.opn.length : Int) - 1) (-1) s.opn.length) (i ≤ s.opn.length) (R = AE B s) (m = [(zs "tree", .ref B.tr), (zs "sort", .str sort), (zs "names", .tup (ns.map V.str)), (zs "stack", .ref B.st)]) ((∃ r, τ' = r :: τ)) (s.scope ns sort (s.opn.reverse.drop i) = s.scope ns sort s.opn.reverse)) ?_ ?_ ?_ ?_
 ·refine Ap (DU _) rfl (by decide) ?_
  refine A5 ?_
  refine AP ?_
  refine AH ?_
  refine A4 rfl ?_
  refine BJ (Cd _) (Ba _) (DG _) rfl ?_
  refine many_spec (Nat.le_trans w.opn w.small) ?_
  refine AL ?_
  refine Hb ?_
  refine A5 ?_
  refine AX ?_
  refine AL ?_
  refine B8 ?_
  refine A5 ?_
  refine AX ?_
  refine AL ?_
  refine B8 ?_
  refine A7 ?_
  refine Cl_range3 (by decide) (PyProof.noPylong_small (by decide)) fun r => ?_
  refine ⟨_, _, _, _, rfl, Sub.refl _, CY (List.mem_append_right _ (.tail _ (.head _))) (IL _ (Nat.le_trans w.opn w.small)).2 (IL _ (Nat.le_trans w.opn w.small)).1 fun it => ⟨rfl, Nat.zero_le _, rfl, rfl, ⟨_, rfl⟩, rfl⟩⟩
 ·rintro it I i R m τ' hlt ⟨rfl, hle, rfl, rfl, ⟨r, rfl⟩, he⟩
  have hlt' : i < s.opn.length := hlt
  have hi : (itR g it ((s.opn.length : Int) - 1) (-1) s.opn.length).item i = .int ((s.opn.length - 1 - i : Nat) : Int) := by
   show V.int _ = _; congr 1; omega
  rw [hi]
  rw [revDrop hlt', St.scope_cons] at he
  have hz := Nat.le_trans w.opn w.small
  have hj : s.opn.length - 1 - i < s.opn.length := by omega
  obtain ⟨h0, h1⟩ := ok.opn _ (List.getElem_mem hj)
  refine AT ?_
  refine AF ?_
  refine A6 ?_
  refine AD ?_
  refine AO ?_
  refine AC ?_
  refine A4 rfl ?_
  refine B2 ?_
  refine A4 rfl ?_
  refine Ay (BQ _) (by omega) (by omega) (itemI hj rfl) ?_
  refine AF ?_
  refine A6 ?_
  refine AY ?_
  refine DS (c := s.sp s.opn[s.opn.length - 1 - i] == AU && ns.contains (s.na s.opn[s.opn.length - 1 - i])) ?_ (fun h => ?_) (fun h => ?_)
  refine BO ?_
  refine AB ?_
  refine AO ?_
  refine AC ?_
  refine A4 rfl ?_
  refine Bk ?_
  refine A4 rfl ?_
  refine O_sp ok h0 h1 w ?_
  refine A9 ?_
  refine B9 ?_
  refine ⟨_, rfl, ?_⟩
  refine AQ (fun h => ?_) (fun h => ?_)
  ·refine Bi ?_
   refine AB ?_
   refine AO ?_
   refine AC ?_
   refine A4 rfl ?_
   refine Be ?_
   refine A4 rfl ?_
   refine O_na ok h0 h1 w ?_
   refine A4 rfl ?_
   refine BK ?_
   refine ⟨_, rfl, ?_⟩
   refine ⟨?_, rfl⟩
   rw [h, Bool.true_and]
  ·exact ⟨by rw [h, Bool.false_and], rfl⟩
  ·refine A6 ?_
   refine AG ?_
   refine As ?_
   rw [if_pos h] at he
   rw [← he] at q
   exact AR (sub3 ..) q
  ·rw [if_neg (by rw [show (s.sp s.opn[s.opn.length - 1 - i] == AU && ns.contains (s.na s.opn[s.opn.length - 1 - i])) = false from h]; decide)] at he
   refine A8 ?_
   refine A6 ?_
   refine AY ?_
   refine B7 ?_
   refine AJ (HR _) (I1 _) ?_
   refine A5 ?_
   refine A4 rfl ?_
   refine A5 ?_
   refine A4 rfl ?_
   refine A5 ?_
   refine A4 rfl ?_
   refine A7 ?_
   refine stops_spec ok w h0 h1 ?_
   refine An ?_
   refine AQ (fun h => ?_) (fun h => ?_)
   ·refine A6 ?_
    refine AG ?_
    refine As ?_
    rw [if_pos h] at he
    rw [← he] at q
    exact AR (sub3 ..) q
   ·rw [if_neg (by rw [h]; decide)] at he
    refine A8 ?_
    refine A8 ?_
    exact ⟨_, _, _, _, rfl, Sub.cons rfl (Sub.cons rfl (Sub.cons rfl (Sub.cons rfl .nil))), rfl, hlt', rfl, rfl, ⟨_, rfl⟩, he⟩
 ·rintro it I i R m τ' ⟨rfl, hle, rfl, rfl, ⟨r, rfl⟩, he⟩
  exact ⟨hle, fun m' => trivial⟩
 ·rintro it I R m m' τ' ⟨rfl, hle, rfl, rfl, ⟨r, rfl⟩, he⟩ hs
  refine A6 ?_
  refine AG ?_
  refine As ?_
  have e : s.opn.reverse.drop s.opn.length = [] := List.drop_eq_nil_of_le (by rw [List.length_reverse]; exact Nat.le_refl _)
  have he : s.scope ns sort (s.opn.reverse.drop s.opn.length) = _ := he
  rw [e] at he
  rw [← he] at q
  exact AR (sub2 ..) q
theorem in_scope_spec {ns : List Str} {sort : Str} (ok : Ok s) (w : Big s b) (q : Q (.bool (s.scope ns sort s.opn.reverse)) (AE B s ++ τ)) : Fn g (k + 3) 169 [.ref B.st, .tup (ns.map V.str), .str sort] (AE B s ++ τ) Q :=
 En ok w (bndD3 (mex := []) (ex := []) rfl (GX _) rfl (fun _ _ _ => rfl) (fun _ _ _ => by kernel_rfl) (fun _ _ => .nil) (by kernel_rfl)) q
theorem IN {ns : List Str} (ok : Ok s) (w : Big s b) (q : Q (.bool (s.scope ns es s.opn.reverse)) (AE B s ++ τ)) : Fn g (k + 3) 169 [.ref B.st, .tup (ns.map V.str)] (AE B s ++ τ) Q :=
 En ok w (bndD2 (mex := [(zs "sort", .str es)]) (ex := [(zs "sort", .str (zs "") 364)]) rfl (GX _) rfl (fun _ _ => rfl) (fun _ _ => by kernel_rfl) (fun _ _ => .cons (.str _ _) .nil) (by kernel_rfl)) q
theorem St.par_ok (ok : Ok s) (h0 : 0 ≤ x) (h1 : x < s.names.length) : s.par x = -1 ∨ (0 ≤ s.par x ∧ s.par x < x) := by
 have : x.toNat < s.parents.length := by rw [ok.pa]; omega
 have := ok.up x.toNat (s.par x) (by unfold St.par; rw [List.getD_eq_getElem?_getD, List.getElem?_eq_getElem this]; rfl)
 omega
theorem above_spec {L₀ : Addr} {m₀ : Loc} (ok : Ok s) (w : Big s b) (h0 : 0 ≤ x) (h1 : x < s.names.length) (q : ∀ (a : Addr) (xs : List Int), (∀ y ∈ xs, y < x) → Q (.ref a) (Fm (AE B s) L₀ m₀ ((a, .list (xs.map V.int)) :: τ))) : Fn g (k + 1) 569 [.ref B.tr, .int x] (Fm (AE B s) L₀ m₀ τ) Q := by
 refine AN [(zs "node", .int x), (zs "tree", .ref B.tr)] (lk_above _) (cd_above _) (DB (fun _ _ => by kernel_rfl) (by kernel_rfl)) (fun L => ?_) (by decide +kernel) (by kernel_rfl) (by kernel_rfl) (by kernel_rfl)
 conv in stB _ => whnf
 conv in stS _ => whnf
 refine A6 ?_
 refine AD ?_
 refine Af ?_
 refine A7 ?_
 refine ⟨_, _, _, _, rfl, sz_lit rfl, fun c => ?_⟩
 refine AF ?_
 refine A6 ?_
 refine AD ?_
 refine AO ?_
 refine AC ?_
 refine A4 rfl ?_
 refine Bl ?_
 refine A4 rfl ?_
 refine O_pa ok h0 h1 w ?_
 refine AF ?_
 refine A6 ?_
 refine Cs (L := L) (fun n R m τ' => ∃ (xs : List Int) (u : Int), C7 ((u = -1 ∨ (0 ≤ u ∧ u < x))) ((∀ y ∈ xs, y < x)) ((xs.length : Int) + u + 1 ≤ x) ((n : Int) = u + 1) (R = AE B s) (m = [(zs "up", .int u), (zs "out", .ref c), (zs "node", .int x), (zs "tree", .ref B.tr)]) (τ' = (c, .list (xs.map V.int)) :: (L₀, .ns m₀) :: τ)) (s.par x + 1).toNat ?_ ?_
 ·have := St.par_ok ok h0 h1
  exact ⟨_, _, _, _, rfl, Sub.refl _, [], s.par x, this, fun _ h => (nomatch h), by simp; omega, by omega, rfl, rfl, rfl⟩
 rintro n R m τ' ⟨xs, u, hu, hxs, hlen, hn, rfl, rfl, rfl⟩
 refine AB ?_
 refine A4 rfl ?_
 refine AX ?_
 refine AL ?_
 refine B8 ?_
 refine FD ?_
 refine ⟨_, rfl, ?_⟩
 refine AQ (fun h => ?_) (fun h => ?_)
 ·have hu' : 0 ≤ u ∧ u < x := by
   rcases hu with e | e
   ·subst e; exact absurd h (by decide)
   ·exact e
  have hz := w.small
  have hn' := w.n
  refine A6 ?_
  refine AI ?_
  refine AH ?_
  refine A4 rfl ?_
  refine Aq (TyOf.list (ds := xs.map V.int) (List.mem_append_right _ (.tail _ (.head _)))) F.plainAttrs_list F.slot_list_append F.type_list_append ?_
  refine A5 ?_
  refine A4 rfl ?_
  refine A7 ?_
  refine Aa (ds := xs.map V.int) (d := .int u) (Upd1.append_left (.tail .head) _) (by rw [List.length_map, sizeLine_eq]; omega) ?_
  refine ⟨rfl, ?_⟩
  refine A6 ?_
  refine AD ?_
  refine AO ?_
  refine AC ?_
  refine A4 rfl ?_
  refine Bl ?_
  refine A4 rfl ?_
  refine O_pa ok hu'.1 (by omega) w ?_
  refine AF ?_
  refine A8 ?_
  have := St.par_ok ok hu'.1 (by omega : u < s.names.length)
  refine ⟨(s.par u + 1).toNat, _, _, _, _, by omega, rfl, ?_, xs ++ [u], s.par u, by omega, ?_, by simp; omega, by omega, rfl, rfl, by simp⟩
  ·exact Sub.cons rfl (Sub.cons rfl (Sub.cons rfl (Sub.cons rfl .nil)))
  ·intro y hy
   rcases List.mem_append.mp hy with e | e
   ·exact hxs y e
   ·simp at e; omega
 ·refine A6 ?_
  refine AG ?_
  refine A4 rfl ?_
  exact ret_swap (q c xs hxs)
theorem val_cons (ps : List (Str × Str)) (i : Nat) (n : Str) (h : i < ps.length) : (ps.drop i).find? (fun p => p.1 == n) = if ps[i].1 == n then some ps[i] else (ps.drop (i + 1)).find? (fun p => p.1 == n) := by
 rw [List.drop_eq_getElem_cons h, List.find?_cons]
 cases ps[i].1 == n <;> rfl
theorem value_spec {n : Str} (ok : Ok s) (w : Big s b) (h0 : 0 ≤ x) (h1 : x < s.names.length) (q : Q (s.val x n) (AE B s ++ τ)) : Fn g (k + 1) 548 [.ref B.tr, .int x, .str n] (AE B s ++ τ) Q := by
 refine AN [(zs "name", .str n), (zs "node", .int x), (zs "self", .ref B.tr)] (lk_Tree_value _) (cd_Tree_value _) (bnd3 (fun _ _ _ => by kernel_rfl) (by kernel_rfl)) (fun L => ?_) (by decide +kernel) (by kernel_rfl) (by kernel_rfl) (by kernel_rfl)
 conv in stB _ => whnf
 conv in stS _ => whnf
 refine A6 ?_
 refine Dl (L := L) (fun it I i R m τ' => C6 (I = itL g it (s.aA.getD x.toNat 0) ((s.at x).map prV)) (i ≤ (s.at x).length) (R = AE B s) (m = [(zs "name", .str n), (zs "node", .int x), (zs "self", .ref B.tr)]) (τ' = τ) (((s.at x).drop i).find? (fun p => p.1 == n) = (s.at x).find? (fun p => p.1 == n))) ?_ ?_ ?_ ?_
 ·refine AO ?_
  refine AC ?_
  refine A4 rfl ?_
  refine DX ?_
  refine A4 rfl ?_
  refine O_aA ok h0 h1 w ?_
  exact ⟨_, _, _, _, rfl, Sub.refl _, CQ (m_at ok h0 h1) fun it => ⟨rfl, Nat.zero_le _, rfl, rfl, rfl, rfl⟩⟩
 ·rintro it I i R m τ' hlt ⟨rfl, hle, rfl, rfl, rfl, he⟩
  have hlt' : i < (s.at x).length := by simpa [itL] using hlt
  have hi : (itL g it (s.aA.getD x.toNat 0) ((s.at x).map prV)).item i = prV (s.at x)[i] := by
   show ((s.at x).map prV).getD i .none = _
   rw [List.getD_eq_getElem?_getD, List.getElem?_map, List.getElem?_eq_getElem hlt']; rfl
  rw [hi]
  rw [val_cons _ _ _ hlt'] at he
  unfold prV
  refine AT ?_
  refine AF ?_
  refine A6 ?_
  refine AY ?_
  refine AB ?_
  refine AO ?_
  refine A4 rfl ?_
  refine AL ?_
  refine CA 0 rfl rfl ?_
  refine A4 rfl ?_
  refine B9 ?_
  refine ⟨_, rfl, ?_⟩
  refine AQ (fun h => ?_) (fun h => ?_)
  ·refine A6 ?_
   refine AG ?_
   refine AO ?_
   refine A4 rfl ?_
   refine AL ?_
   refine CA 1 rfl rfl ?_
   rw [if_pos h] at he
   unfold St.val at q
   rw [← he] at q
   exact AR (sub2 ..) q
  ·refine A8 ?_
   refine A8 ?_
   rw [if_neg (by rw [h]; decide)] at he
   exact ⟨_, _, _, _, rfl, Sub.cons rfl (Sub.cons rfl (Sub.cons rfl .nil)), rfl, hlt', rfl, rfl, rfl, he⟩
 ·rintro it I i R m τ' ⟨rfl, hle, rfl, rfl, rfl, he⟩
  exact ⟨by simpa [itL] using hle, fun m' => m_at ok h0 h1⟩
 ·rintro it I R m m' τ' ⟨rfl, hle, rfl, rfl, rfl, he⟩ hs
  refine A6 ?_
  refine AG ?_
  refine WE_none ?_
  have e : (s.at x).drop ((s.at x).map prV).length = [] := List.drop_eq_nil_of_le (by rw [List.length_map]; exact Nat.le_refl _)
  have he : ((s.at x).drop ((s.at x).map prV).length).find? _ = _ := he
  rw [e] at he
  unfold St.val at q
  rw [← he] at q
  exact AR (Ak ..) q
end
end Mine
namespace Mine
noncomputable def St.addN (s : St) (kind space name : Str) (attrs : List (Str × Str)) (a c : Addr) : St :=
 { s with kinds := s.kinds ++ [kind], spaces := s.spaces ++ [space], names := s.names ++ [name], attrs := s.attrs ++ [attrs], aA := s.aA ++ [a], texts := s.texts ++ [es], parents := s.parents ++ [-1], children := s.children ++ [[]], cA := s.cA ++ [c] }
noncomputable def IO (i j : Int) (l : List (Int × Int)) : List (Int × Int) := if l.any (fun e => decide (e.1 = i)) then l.map (fun e => if e.1 = i then (e.1, j) else e) else l ++ [(i, j)]
theorem any_dcV (i : Int) (l : List (Int × Int)) : (l.map dcV).any (fun e => decide (e.1 = i)) = l.any (fun e => decide (e.1 = i)) := by
 induction l with
 | nil => rfl
 | cons a l ih => simp only [List.map_cons, List.any_cons, ih, dcV]
theorem putK_dc (i j : Int) (l : List (Int × Int)) : Gp i (V.int j) (l.map dcV) = (IO i j l).map dcV := by
 unfold Gp IO
 rw [any_dcV]
 split
 ·rw [List.map_map, List.map_map]
  refine List.map_congr_left fun e _ => ?_
  obtain ⟨a, c⟩ := e
  by_cases h : a = i
  ·subst h; simp [dcV]
  ·simp [dcV, h]
 ·simp [dcV]
theorem putI_mem {i j : Int} {l : List (Int × Int)} {p : Int × Int} (h : p ∈ IO i j l) : p ∈ l ∨ p = (i, j) := by
 unfold IO at h
 split at h
 ·obtain ⟨e, he, rfl⟩ := List.mem_map.mp h
  split
  ·rename_i q; exact .inr (by rw [← q])
  ·exact .inl he
 ·rcases List.mem_append.mp h with e | e
  ·exact .inl e
  ·simp at e; exact .inr e
theorem EF (i j : Int) (l : List (Int × Int)) : (IO i j l).length ≤ l.length + 1 := by
 unfold IO
 split <;> simp
noncomputable def St.putC (s : St) (i j : Int) : St := { s with contents := IO i j s.contents }
noncomputable def St.putO (s : St) (i j : Int) : St := { s with owners := IO i j s.owners }
noncomputable def St.w_kinds (s : St) (v : Str) : St := { s with kinds := s.kinds ++ [v] }
noncomputable def St.w_spaces (s : St) (v : Str) : St := { s with spaces := s.spaces ++ [v] }
noncomputable def St.w_names (s : St) (v : Str) : St := { s with names := s.names ++ [v] }
noncomputable def St.w_texts (s : St) (v : Str) : St := { s with texts := s.texts ++ [v] }
noncomputable def St.w_parents (s : St) (v : Int) : St := { s with parents := s.parents ++ [v] }
noncomputable def St.w_attrs (s : St) (v : Addr) : St := { s with aA := s.aA ++ [v] }
noncomputable def St.w_children (s : St) (v : Addr) : St := { s with cA := s.cA ++ [v] }
theorem Ok.addN {s : St} (ok : Ok s) (kind space name : Str) (attrs : List (Str × Str)) (a c : Addr) : Ok (s.addN kind space name attrs a c) := by
 have e : (s.addN kind space name attrs a c).names.length = s.names.length + 1 := by simp [St.addN]
 refine ⟨?_, ?_, ?_, ?_, ?_, ?_, ?_, ?_, ?_, ?_, ?_, ?_, ?_⟩
 ·simp [St.addN, ok.sp]
 ·simp [St.addN, ok.ki]
 ·simp [St.addN, ok.te]
 ·simp [St.addN, ok.at_]
 ·simp [St.addN, ok.aA]
 ·simp [St.addN, ok.pa]
 ·simp [St.addN, ok.ch]
 ·simp [St.addN, ok.cA]
 ·omega
 ·intro x hx; have := ok.opn x hx; rw [e]; omega
 ·intro x hx; have := ok.fmt x hx; rw [e]; omega
 ·intro i x hx
  have hx : (s.parents ++ [-1])[i]? = some x := hx
  rw [List.getElem?_append] at hx
  split at hx
  ·exact ok.up i x hx
  ·left
   have : ([-1] : List Int)[i - s.parents.length]? = some x := hx
   cases hk : i - s.parents.length with
   | zero => rw [hk] at this; simp at this; exact this.symm
   | succ n => rw [hk] at this; simp at this
 ·intro p hp; have := ok.con p hp; rw [e]; omega
theorem Big.addN {s : St} {b : Nat} (w : Big s b) (hb : b + 1 ≤ 1000000) {kind space name : Str} {attrs : List (Str × Str)} (ha : attrs.length ≤ b + 1) {a c : Addr} : Big (s.addN kind space name attrs a c) (b + 1) := by
 refine ⟨?_, ?_, ?_, ?_, ?_, ?_, ?_, ?_, hb⟩
 ·have := w.n; simp [St.addN]; omega
 ·exact Nat.le_succ_of_le w.opn
 ·exact Nat.le_succ_of_le w.fmt
 ·exact Nat.le_succ_of_le w.err
 ·exact Nat.le_succ_of_le w.own
 ·exact Nat.le_succ_of_le w.con
 ·intro x hx
  rcases List.mem_append.mp hx with e | e
  ·exact Nat.le_succ_of_le (w.att x e)
  ·simp at e; subst e; exact ha
 ·intro x hx
  rcases List.mem_append.mp hx with e | e
  ·exact Nat.le_succ_of_le (w.chi x e)
  ·simp at e; subst e; exact Nat.zero_le _
section
variable {g : G} {k : Nat} {B : BA} {s : St} {τ σ : Store} {Q : V → Store → Prop} {b : Nat} {x : Int} {value slice : Expr}
theorem u_aA {ds : List V} (x : List Addr) (h : ds = x.map V.ref) (hz : List.zipWith (fun a (ps : List (Str × Str)) => (a, Cell.list (ps.map prV))) x s.attrs = aC s) : Upd1 B.attrs (.list (s.aA.map V.ref)) (.list ds) (AE B s ++ σ) (AE B { s with aA := x } ++ σ) :=
 h ▸ Ax (B := B) (s := s) (s' := { s with aA := x }) (.tail (.tail (.tail (.tail (.tail (.tail (.tail (.tail (.tail (.tail (.tail (.head)))))))))))) hz rfl σ
theorem u_cA {ds : List V} (x : List Addr) (h : ds = x.map V.ref) (hz : List.zipWith (fun a (ps : List Int) => (a, Cell.list (ps.map V.int))) x s.children = cC s) : Upd1 B.children (.list (s.cA.map V.ref)) (.list ds) (AE B s ++ σ) (AE B { s with cA := x } ++ σ) :=
 h ▸ Ax (B := B) (s := s) (s' := { s with cA := x }) (.tail (.tail (.tail (.tail (.tail (.tail (.tail (.tail (.tail (.tail (.tail (.tail (.tail (.tail (.head))))))))))))))) rfl hz σ
theorem CI {α β γ : Type} (f : α → β → γ) : ∀ (xs : List α) (ys : List β) (x : α), xs.length = ys.length → List.zipWith f (xs ++ [x]) ys = List.zipWith f xs ys
 | [], [], x, _ => rfl
 | a :: xs, c :: ys, x, h => by simp only [List.cons_append, List.zipWith_cons_cons]; rw [CI f xs ys x (by simpa using h)]
 | [], _ :: _, _, h => by simp at h
 | _ :: _, [], _, h => by simp at h
theorem Fd {α β γ : Type} (f : α → β → γ) (xs : List α) (ys : List β) (x : α) (y : β) (h : xs.length = ys.length) : List.zipWith f (xs ++ [x]) (ys ++ [y]) = List.zipWith f xs ys ++ [f x y] := by
 rw [List.zipWith_append h]; rfl
theorem ap_kinds {v : Str} (hz : s.kinds.length ≤ sizeLine) (q : Q .none (AE B (s.w_kinds v) ++ σ)) : Cl g k (.builtin "list.append") [.ref B.kinds, .str v] (AE B s ++ σ) Q := Aa (u_kinds (s.kinds ++ [v]) (by simp)) (by rw [List.length_map]; exact hz) q
theorem ap_spaces {v : Str} (hz : s.spaces.length ≤ sizeLine) (q : Q .none (AE B (s.w_spaces v) ++ σ)) : Cl g k (.builtin "list.append") [.ref B.spaces, .str v] (AE B s ++ σ) Q := Aa (u_spaces (s.spaces ++ [v]) (by simp)) (by rw [List.length_map]; exact hz) q
theorem ap_names {v : Str} (hz : s.names.length ≤ sizeLine) (q : Q .none (AE B (s.w_names v) ++ σ)) : Cl g k (.builtin "list.append") [.ref B.names, .str v] (AE B s ++ σ) Q := Aa (u_names (s.names ++ [v]) (by simp)) (by rw [List.length_map]; exact hz) q
theorem ap_texts {v : Str} (hz : s.texts.length ≤ sizeLine) (q : Q .none (AE B (s.w_texts v) ++ σ)) : Cl g k (.builtin "list.append") [.ref B.texts, .str v] (AE B s ++ σ) Q := Aa (u_texts (s.texts ++ [v]) (by simp)) (by rw [List.length_map]; exact hz) q
theorem ap_parents {v : Int} (hz : s.parents.length ≤ sizeLine) (q : Q .none (AE B (s.w_parents v) ++ σ)) : Cl g k (.builtin "list.append") [.ref B.parents, .int v] (AE B s ++ σ) Q := Aa (u_parents (s.parents ++ [v]) (by simp)) (by rw [List.length_map]; exact hz) q
theorem ap_attrs {v : Addr} (hz : s.aA.length ≤ sizeLine) (he : s.aA.length = s.attrs.length) (q : Q .none (AE B (s.w_attrs v) ++ σ)) : Cl g k (.builtin "list.append") [.ref B.attrs, .ref v] (AE B s ++ σ) Q := Aa (u_aA (s.aA ++ [v]) (by simp) (CI _ _ _ _ he)) (by rw [List.length_map]; exact hz) q
theorem ap_children {v : Addr} (hz : s.cA.length ≤ sizeLine) (he : s.cA.length = s.children.length) (q : Q .none (AE B (s.w_children v) ++ σ)) : Cl g k (.builtin "list.append") [.ref B.children, .ref v] (AE B s ++ σ) Q := Aa (u_cA (s.cA ++ [v]) (by simp) (CI _ _ _ _ he)) (by rw [List.length_map]; exact hz) q
theorem fold_node {s s1 : St} (ok : Ok s) {kind space name : Str} {attrs : List (Str × Str)} {a c L : Addr} {m : Loc} (h1 : core B s1 = core B (s.addN kind space name attrs a c)) (h2 : aC s1 = aC s) (h3 : cC s1 = cC s) :
  (Fm (AE B s1) L m ((c, .list []) :: (a, .list (attrs.map prV)) :: τ)).Perm (Fm (AE B (s.addN kind space name attrs a c)) L m τ) := by
 have e1 : aC (s.addN kind space name attrs a c) = aC s ++ [(a, .list (attrs.map prV))] := Fd _ _ _ _ _ (ok.aA.trans ok.at_.symm)
 have e2 : cC (s.addN kind space name attrs a c) = cC s ++ [(c, .list [])] := Fd _ _ _ _ _ (ok.cA.trans ok.ch.symm)
 unfold Fm AE
 rw [e1, e2, h1, h2, h3]
 generalize core B (s.addN kind space name attrs a c) = C
 generalize aC s = X
 generalize cC s = Y
 generalize ((a, Cell.list (attrs.map prV)) : Addr × Cell) = p
 generalize ((c, Cell.list []) : Addr × Cell) = r
 generalize ((L, Cell.ns m) : Addr × Cell) = l
 simp only [List.append_assoc]
 refine List.Perm.append_left C (List.Perm.append_left X ?_)
 refine List.Perm.trans (l₂ := p :: (Y ++ l :: r :: τ)) ?_ ?_
 ·have h1 : (l :: r :: p :: τ).Perm (p :: l :: r :: τ) := ((List.Perm.swap p r τ).cons l).trans (List.Perm.swap p l _)
  exact (List.Perm.append_left Y h1).trans List.perm_middle
 ·refine List.Perm.cons p ?_
  exact List.Perm.append_left Y (List.Perm.swap r l τ)
theorem add_body {kind space name : Str} {attrs : List (Str × Str)} {ds : List V} (ok : Ok s) (w : Big s b) (ha : attrs.length ≤ 1000000)
  (bn : Bnd g (fnOf (zs "add") (zs "Tree.add") (stA (iS 40 1)) (stB (iS 40 1)) (stS (iS 40 1)) (.ref 461) .none .none (.str (zs "htmltree.tree") 752) none (.ref 467) .none) ds [(zs "text", .str es), (zs "attrs", .tup (attrs.map prV)), (zs "name", .str name), (zs "space", .str space), (zs "kind", .str kind), (zs "self", .ref B.tr)])
  (q : ∀ a c, Q (.int s.names.length) (AE B (s.addN kind space name attrs a c) ++ τ)) : Fn g (k + 1) 468 ds (AE B s ++ τ) Q := by
 have hn := w.n
 have hs := w.small
 have z : ∀ {n : Nat}, n = s.names.length → n ≤ sizeLine := fun e => by rw [sizeLine_eq]; omega
 refine AN [(zs "text", .str es), (zs "attrs", .tup (attrs.map prV)), (zs "name", .str name), (zs "space", .str space), (zs "kind", .str kind), (zs "self", .ref B.tr)] (GU _) (GW _) bn (fun L => ?_) (by decide +kernel) (by kernel_rfl) (by kernel_rfl) (by kernel_rfl)
 conv in stB _ => whnf
 conv in stS _ => whnf
 refine A6 ?_
 refine AI ?_
 refine AH ?_
 refine AC ?_
 refine A4 rfl ?_
 refine DW ?_
 refine Aq (TyOf.list (FH _)) F.plainAttrs_list F.slot_list_append F.type_list_append ?_
 refine A5 ?_
 refine A4 rfl ?_
 refine A7 ?_
 refine ap_kinds (z ok.ki) ?_
 refine ⟨rfl, ?_⟩
 refine A6 ?_
 refine AI ?_
 refine AH ?_
 refine AC ?_
 refine A4 rfl ?_
 refine Bk ?_
 refine Aq (TyOf.list (FI _)) F.plainAttrs_list F.slot_list_append F.type_list_append ?_
 refine A5 ?_
 refine A4 rfl ?_
 refine A7 ?_
 refine ap_spaces (z ok.sp) ?_
 refine ⟨rfl, ?_⟩
 refine A6 ?_
 refine AI ?_
 refine AH ?_
 refine AC ?_
 refine A4 rfl ?_
 refine Be ?_
 refine Aq (TyOf.list (HL _)) F.plainAttrs_list F.slot_list_append F.type_list_append ?_
 refine A5 ?_
 refine A4 rfl ?_
 refine A7 ?_
 refine ap_names (z rfl) ?_
 refine ⟨rfl, ?_⟩
 refine A6 ?_
 refine AI ?_
 refine AH ?_
 refine AC ?_
 refine A4 rfl ?_
 refine DX ?_
 refine Aq (TyOf.list (HM _)) F.plainAttrs_list F.slot_list_append F.type_list_append ?_
 refine A5 ?_
 refine Ap (C9 _) rfl (by decide) ?_
 refine A5 ?_
 refine A4 rfl ?_
 refine A7 ?_
 refine Hd (by rw [List.length_map]; exact line_le ha (by decide)) fun a => ?_
 refine A7 ?_
 refine ap_attrs (z ok.aA) (ok.aA.trans ok.at_.symm) ?_
 refine ⟨rfl, ?_⟩
 refine A6 ?_
 refine AI ?_
 refine AH ?_
 refine AC ?_
 refine A4 rfl ?_
 refine A_t_texts ?_
 refine Aq (TyOf.list (m_texts _)) F.plainAttrs_list F.slot_list_append F.type_list_append ?_
 refine A5 ?_
 refine A4 rfl ?_
 refine A7 ?_
 refine ap_texts (z ok.te) ?_
 refine ⟨rfl, ?_⟩
 refine A6 ?_
 refine AI ?_
 refine AH ?_
 refine AC ?_
 refine A4 rfl ?_
 refine Bl ?_
 refine Aq (TyOf.list (EV _)) F.plainAttrs_list F.slot_list_append F.type_list_append ?_
 refine A5 ?_
 refine AX ?_
 refine AL ?_
 refine B8 ?_
 refine A7 ?_
 refine ap_parents (z ok.pa) ?_
 refine ⟨rfl, ?_⟩
 refine A6 ?_
 refine AI ?_
 refine AH ?_
 refine AC ?_
 refine A4 rfl ?_
 refine CF ?_
 refine Aq (TyOf.list (Dh _)) F.plainAttrs_list F.slot_list_append F.type_list_append ?_
 refine A5 ?_
 refine Af ?_
 refine A7 ?_
 refine ⟨_, _, _, _, rfl, sz_lit rfl, fun c => ?_⟩
 refine A7 ?_
 refine ap_children (z ok.cA) (ok.cA.trans ok.ch.symm) ?_
 refine ⟨rfl, ?_⟩
 refine W.pre ?_ (fun _ S => S.perm (fold_node ok (kind := kind) (space := space) (name := name) (attrs := attrs) rfl (CI _ _ _ _ (ok.aA.trans ok.at_.symm)) (CI _ _ _ _ (ok.cA.trans ok.ch.symm))))
 refine A6 ?_
 refine AG ?_
 refine AP ?_
 refine Ar (BN _) rfl (by decide) ?_
 refine A5 ?_
 refine AC ?_
 refine A4 rfl ?_
 refine DW ?_
 refine A7 ?_
 refine BT (FH _) (by rw [List.length_map]; simp [St.addN, sizeLine_eq, ok.ki]; omega) ?_
 refine AL ?_
 refine Hb ?_
 refine AR (Ak ..) ?_
 have e : ((((s.addN kind space name attrs a c).kinds.map V.str).length : Nat) : Int) - 1 = s.names.length := by rw [List.length_map]; simp [St.addN, ok.ki]
 rw [e]
 exact q _ _
theorem add_spec5 {kind space name : Str} {attrs : List (Str × Str)} (ok : Ok s) (w : Big s b) (ha : attrs.length ≤ 1000000) (q : ∀ a c, Q (.int s.names.length) (AE B (s.addN kind space name attrs a c) ++ τ)) :
  Fn g (k + 1) 468 [.ref B.tr, .str kind, .str space, .str name, .tup (attrs.map prV)] (AE B s ++ τ) Q :=
 add_body ok w ha (bndD5 (mex := [(zs "text", .str es)]) (ex := [(zs "text", .str (zs "") 775)]) rfl (ED _) rfl (fun _ _ _ _ _ => rfl) (fun _ _ _ _ _ => by kernel_rfl) (fun _ _ => .cons (.str _ _) .nil) (by kernel_rfl)) q
theorem add_spec2 {kind : Str} (ok : Ok s) (w : Big s b) (q : ∀ a c, Q (.int s.names.length) (AE B (s.addN kind es es [] a c) ++ τ)) :
  Fn g (k + 1) 468 [.ref B.tr, .str kind] (AE B s ++ τ) Q :=
 add_body (attrs := []) ok w (by decide) (bndD2 (mex := [(zs "text", .str es), (zs "attrs", .tup []), (zs "name", .str es), (zs "space", .str es)]) (ex := [(zs "space", .str (zs "") 773), (zs "name", .str (zs "") 774), (zs "attrs", .ref 460), (zs "text", .str (zs "") 775)]) rfl (ED _) rfl (fun _ _ => rfl) (fun _ _ => by kernel_rfl) (fun h X => .cons (.str _ _) (.cons (.tup (X _ _ (et_460 _)) .nil) (.cons (.str _ _) (.cons (.str _ _) .nil)))) (by kernel_rfl)) q
noncomputable def templateS : Str := zs "template"
noncomputable def Ao : Str := zs "element"
noncomputable def Da : Str := zs "fragment"
theorem Fe {space name : Str} {attrs : List (Str × Str)} {ds : List V} (ok : Ok s) (w : Big s b) (ha : attrs.length ≤ b + 1) (hb : b + 1 ≤ 1000000)
  (bn : Bnd g (fnOf (zs "element") (zs "Tree.element") (stA (iS 40 2)) (stB (iS 40 2)) (stS (iS 40 2)) (.ref 470) .none .none (.str (zs "htmltree.tree") 752) none (.ref 476) .none) ds [(zs "attrs", .tup (attrs.map prV)), (zs "space", .str space), (zs "name", .str name), (zs "self", .ref B.tr)])
  (q1 : (space == AU && name == templateS) = false → ∀ a c, Q (.int s.names.length) (AE B (s.addN Ao space name attrs a c) ++ τ))
  (q2 : (space == AU && name == templateS) = true → ∀ a c a' c', Q (.int s.names.length) (AE B (((s.addN Ao space name attrs a c).addN Da es es [] a' c').putC s.names.length ((s.names.length : Int) + 1)) ++ τ)) : Fn g (k + 2) 477 ds (AE B s ++ τ) Q := by
 refine AN [(zs "attrs", .tup (attrs.map prV)), (zs "space", .str space), (zs "name", .str name), (zs "self", .ref B.tr)] (Gx _) (H5 _) bn (fun L => ?_) (by decide +kernel) (by kernel_rfl) (by kernel_rfl) (by kernel_rfl)
 conv in stB _ => whnf
 conv in stS _ => whnf
 refine A6 ?_
 refine AD ?_
 refine AH ?_
 refine A4 rfl ?_
 refine Ag (DQ _) (Bw _) (E6 _) rfl ?_
 refine A5 ?_
 refine A9 ?_
 refine A5 ?_
 refine A4 rfl ?_
 refine A5 ?_
 refine A4 rfl ?_
 refine A5 ?_
 refine A4 rfl ?_
 refine A7 ?_
 refine add_spec5 ok w (Nat.le_trans ha hb) fun a c => ?_
 have ok1 := ok.addN Ao space name attrs a c
 have w1 := w.addN hb ha (kind := Ao) (space := space) (name := name) (a := a) (c := c)
 refine AF ?_
 refine A6 ?_
 refine AY ?_
 refine DS (c := space == AU && name == templateS) ?_ (fun h => ?_) (fun h => ?_)
 ·refine BO ?_
  refine AB ?_
  refine A4 rfl ?_
  refine A9 ?_
  refine B9 ?_
  refine ⟨_, rfl, ?_⟩
  refine AQ (fun h => ?_) (fun h => ?_)
  ·refine Bi ?_
   refine AB ?_
   refine A4 rfl ?_
   refine A9 ?_
   refine B9 ?_
   refine ⟨_, rfl, ?_⟩
   exact ⟨by rw [h, Bool.true_and]; rfl, rfl⟩
  ·exact ⟨by rw [h, Bool.false_and], rfl⟩
 ·refine A6 ?_
  refine BF ?_
  refine AH ?_
  refine A4 rfl ?_
  refine Ag (DQ _) (Bw _) (E6 _) rfl ?_
  refine A5 ?_
  refine A9 ?_
  refine A7 ?_
  refine add_spec2 ok1 w1 fun a' c' => ?_
  refine AC ?_
  refine A4 rfl ?_
  refine Bq ?_
  refine A4 rfl ?_
  refine O_setDI (u_contents _ (putK_dc _ _ _)) (by rw [List.length_map]; exact line_le w.con w.small) ?_
  refine A8 ?_
  refine A6 ?_
  refine AG ?_
  refine A4 rfl ?_
  refine AR (Ak ..) ?_
  have e : (((s.addN Ao space name attrs a c).names.length : Nat) : Int) = (s.names.length : Int) + 1 := by simp [St.addN]
  have := q2 h a c a' c'
  rw [← e] at this
  exact this
 ·refine A8 ?_
  refine A6 ?_
  refine AG ?_
  refine A4 rfl ?_
  exact AR (Ak ..) (q1 h a c)
theorem Eo {space name : Str} {attrs : List (Str × Str)} (ok : Ok s) (w : Big s b) (ha : attrs.length ≤ b + 1) (hb : b + 1 ≤ 1000000)
  (q1 : (space == AU && name == templateS) = false → ∀ a c, Q (.int s.names.length) (AE B (s.addN Ao space name attrs a c) ++ τ))
  (q2 : (space == AU && name == templateS) = true → ∀ a c a' c', Q (.int s.names.length) (AE B (((s.addN Ao space name attrs a c).addN Da es es [] a' c').putC s.names.length ((s.names.length : Int) + 1)) ++ τ)) :
  Fn g (k + 2) 477 [.ref B.tr, .str name, .str space, .tup (attrs.map prV)] (AE B s ++ τ) Q :=
 Fe ok w ha hb (bndD4 (mex := []) (ex := []) rfl (Dt _) rfl (fun _ _ _ _ => rfl) (fun _ _ _ _ => by kernel_rfl) (fun _ _ => .nil) (by kernel_rfl)) q1 q2
theorem element_spec2 {name : Str} (ok : Ok s) (w : Big s b) (hb : b + 1 ≤ 1000000) (hn : (name == templateS) = false)
  (q1 : ∀ a c, Q (.int s.names.length) (AE B (s.addN Ao AU name [] a c) ++ τ)) :
  Fn g (k + 2) 477 [.ref B.tr, .str name] (AE B s ++ τ) Q :=
 Fe (space := AU) (attrs := []) ok w (Nat.zero_le _) hb (bndD2 (mex := [(zs "attrs", .tup []), (zs "space", .str AU)]) (ex := [(zs "space", .str (zs "html") 788), (zs "attrs", .ref 469)]) rfl (Dt _) rfl (fun _ _ => rfl) (fun _ _ => by kernel_rfl) (fun h X => .cons (.tup (X _ _ (et_469 _)) .nil) (.cons (.str _ _) .nil)) (by kernel_rfl))
  (fun _ => q1) (fun h => by rw [hn, Bool.and_false] at h; cases h)
theorem remove_spec (ok : Ok s) (w : Big s b) (h0 : 0 ≤ x) (h1 : x < s.names.length) (hp : s.par x = -1) (q : Q .none (AE B s ++ τ)) : Fn g (k + 1) 520 [.ref B.tr, .int x] (AE B s ++ τ) Q := by
 refine AN [(zs "node", .int x), (zs "self", .ref B.tr)] (Hz _) (IG _) (DB (fun _ _ => by kernel_rfl) (by kernel_rfl)) (fun L => ?_) (by decide +kernel) (by kernel_rfl) (by kernel_rfl) (by kernel_rfl)
 conv in stB _ => whnf
 conv in stS _ => whnf
 refine A6 ?_
 refine AY ?_
 refine AB ?_
 refine AO ?_
 refine AC ?_
 refine A4 rfl ?_
 refine Bl ?_
 refine A4 rfl ?_
 refine O_pa ok h0 h1 w ?_
 rw [hp]
 refine AX ?_
 refine AL ?_
 refine B8 ?_
 refine FD ?_
 refine ⟨_, rfl, ?_⟩
 refine CH rfl ?_
 refine A8 ?_
 refine A8 ?_
 exact AZ (Ak ..) q
noncomputable def St.ins (s : St) (p n : Int) : St := { s with children := s.children.set p.toNat (s.kid p ++ [n]), parents := s.parents.set n.toNat p }
noncomputable def St.kidded (s : St) (p n : Int) : St := { s with children := s.children.set p.toNat (s.kid p ++ [n]) }
theorem upd_zip (xs : List Addr) : ∀ (ys : List (List Int)) (i : Nat) (y y' : List Int) (a : Addr), xs[i]? = some a → ys[i]? = some y →
  Upd1 a (.list (y.map V.int)) (.list (y'.map V.int)) (List.zipWith (fun a ps => (a, Cell.list (ps.map V.int))) xs ys) (List.zipWith (fun a ps => (a, Cell.list (ps.map V.int))) xs (ys.set i y')) := by
 induction xs with
 | nil => intro ys i y y' a h _; simp at h
 | cons x xs ih =>
  intro ys i y y' a h1 h2
  cases ys with
  | nil => simp at h2
  | cons z ys =>
   cases i with
   | zero => cases h1; cases h2; exact .head
   | succ i => exact .tail (ih ys i y y' a (by simpa using h1) (by simpa using h2))
theorem u_kid {p n : Int} (ok : Ok s) (h0 : 0 ≤ p) (h1 : p < s.names.length) : Upd1 (s.cA.getD p.toNat 0) (.list ((s.kid p).map V.int)) (.list ((s.kid p).map V.int ++ [.int n])) (AE B s ++ σ) (AE B (s.kidded p n) ++ σ) := by
 have a1 : p.toNat < s.cA.length := by rw [ok.cA]; omega
 have a2 : p.toNat < s.children.length := by rw [ok.ch]; omega
 have := upd_zip s.cA s.children p.toNat (s.kid p) (s.kid p ++ [n]) (s.cA.getD p.toNat 0) (by rw [List.getD_eq_getElem?_getD, List.getElem?_eq_getElem a1]; rfl) (by unfold St.kid; rw [List.getD_eq_getElem?_getD, List.getElem?_eq_getElem a2]; rfl)
 rw [List.map_append, List.map_singleton] at this
 have e : ∀ s' : St, AE B s' ++ σ = core B s' ++ (aC s' ++ (cC s' ++ σ)) := fun s' => by unfold AE; rw [List.append_assoc, List.append_assoc]
 rw [e, e]
 exact Upd1.append_left (Upd1.append_left (this.append_right σ) (aC s)) (core B s)
theorem GY {p n : Int} {ds : List V} (ok : Ok s) (w : Big s b) (hp0 : 0 ≤ p) (hpn : p < n) (hn : n < s.names.length) (hpar : s.par n = -1)
  (bn : Bnd g (fnOf (zs "insert") (zs "Tree.insert") (stA (iS 40 6)) (stB (iS 40 6)) (stS (iS 40 6)) (.ref 499) .none .none (.str (zs "htmltree.tree") 752) none (.ref 505) .none) ds [(zs "before", .int (-1)), (zs "node", .int n), (zs "parent", .int p), (zs "self", .ref B.tr)])
  (q : Q .none (AE B (s.ins p n) ++ τ)) : Fn g (k + 2) 506 ds (AE B s ++ τ) Q := by
 have hs := w.small
 have hnb := w.n
 have hp1 : p < s.names.length := by omega
 have hn0 : 0 ≤ n := by omega
 refine AN [(zs "before", .int (-1)), (zs "node", .int n), (zs "parent", .int p), (zs "self", .ref B.tr)] (Hx _) (IE _) bn (fun L => ?_) (by decide +kernel) (by kernel_rfl) (by kernel_rfl) (by kernel_rfl)
 conv in stB _ => whnf
 conv in stS _ => whnf
 refine A6 ?_
 refine AY ?_
 refine GS ?_
 refine AB ?_
 refine A4 rfl ?_
 refine A4 rfl ?_
 refine CX ?_
 refine ⟨_, rfl, ?_⟩
 refine CH (by simp; omega) ?_
 refine F0 ?_
 refine AB ?_
 refine A4 rfl ?_
 refine AJ (gl_above _) (kp_above _) ?_
 refine A5 ?_
 refine A4 rfl ?_
 refine A5 ?_
 refine A4 rfl ?_
 refine A7 ?_
 refine above_spec ok w hp0 hp1 fun a xs hxs => ?_
 refine O_inLI (xs := xs) (List.mem_append_right _ (.tail _ (.head _))) ?_
 refine ⟨_, rfl, ?_⟩
 refine CH ?_ ?_
 ·cases e : xs.contains n with
  | false => rfl
  | true => have := hxs n (List.contains_iff_mem.mp e); omega
 refine A8 ?_
 refine A6 ?_
 refine AY ?_
 refine BO ?_
 refine AB ?_
 refine A4 rfl ?_
 refine AX ?_
 refine AL ?_
 refine B8 ?_
 refine FD ?_
 refine ⟨_, rfl, ?_⟩
 refine CH rfl ?_
 refine CH rfl ?_
 refine A8 ?_
 refine A6 ?_
 refine AY ?_
 refine AB ?_
 refine A4 rfl ?_
 refine A4 rfl ?_
 refine CX ?_
 refine ⟨_, rfl, ?_⟩
 refine CH (by simp; omega) ?_
 refine A8 ?_
 refine A6 ?_
 refine AI ?_
 refine AH ?_
 refine A4 rfl ?_
 refine Ag (DQ _) (Bw _) (Hj _) rfl ?_
 refine A5 ?_
 refine A4 rfl ?_
 refine A7 ?_
 refine remove_spec ok w hn0 hn hpar ?_
 refine ⟨rfl, ?_⟩
 refine A6 ?_
 refine AD ?_
 refine Ar (BN _) rfl (by decide) ?_
 refine A5 ?_
 refine AO ?_
 refine AC ?_
 refine A4 rfl ?_
 refine CF ?_
 refine A4 rfl ?_
 refine O_cA ok hp0 hp1 w ?_
 refine A7 ?_
 refine BT (m_kid ok hp0 hp1) (by
  rw [List.length_map]
  refine line_le (b := b) ?_ hs
  have a2 : p.toNat < s.children.length := by rw [ok.ch]; omega
  unfold St.kid; rw [List.getD_eq_getElem?_getD, List.getElem?_eq_getElem a2]
  exact w.chi _ (List.getElem_mem a2)) ?_
 refine AF ?_
 refine A6 ?_
 refine AY ?_
 refine AB ?_
 refine A4 rfl ?_
 refine AX ?_
 refine AL ?_
 refine B8 ?_
 refine FD ?_
 refine ⟨_, rfl, ?_⟩
 refine CH rfl ?_
 refine A8 ?_
 refine A6 ?_
 refine AI ?_
 refine AH ?_
 refine AO ?_
 refine AC ?_
 refine A4 rfl ?_
 refine CF ?_
 refine A4 rfl ?_
 refine O_cA ok hp0 hp1 w ?_
 refine Aq (TyOf.list (m_kid ok hp0 hp1)) F.plainAttrs_list F.slot_list_insert F.type_list_insert ?_
 refine A5 ?_
 refine A4 rfl ?_
 refine A5 ?_
 refine A4 rfl ?_
 refine A7 ?_
 refine Cl_insert_end (u_kid ok hp0 hp1) rfl (by
  rw [List.length_map]
  refine line_le (b := b) ?_ hs
  have a2 : p.toNat < s.children.length := by rw [ok.ch]; omega
  unfold St.kid; rw [List.getD_eq_getElem?_getD, List.getElem?_eq_getElem a2]
  exact w.chi _ (List.getElem_mem a2)) ?_
 refine ⟨rfl, ?_⟩
 refine A6 ?_
 refine BF ?_
 refine A4 rfl ?_
 refine AC ?_
 refine A4 rfl ?_
 refine Bl ?_
 refine A4 rfl ?_
 refine O_setL (u_parents (s := s.kidded p n) (s.parents.set n.toNat p) (by rw [List.map_set]; rfl)) hn0 (by omega) (by rw [List.length_map]; have : (s.kidded p n).parents.length = _ := ok.pa; omega) ?_
 refine A8 ?_
 exact AZ (sub2 ..) q
theorem insert_spec4 {p n : Int} (ok : Ok s) (w : Big s b) (hp0 : 0 ≤ p) (hpn : p < n) (hn : n < s.names.length) (hpar : s.par n = -1) (q : Q .none (AE B (s.ins p n) ++ τ)) :
  Fn g (k + 2) 506 [.ref B.tr, .int p, .int n, .int (-1)] (AE B s ++ τ) Q :=
 GY ok w hp0 hpn hn hpar (bndD4 (mex := []) (ex := []) rfl (EE _) rfl (fun _ _ _ _ => rfl) (fun _ _ _ _ => by kernel_rfl) (fun _ _ => .nil) (by kernel_rfl)) q
theorem insert_spec3 {p n : Int} (ok : Ok s) (w : Big s b) (hp0 : 0 ≤ p) (hpn : p < n) (hn : n < s.names.length) (hpar : s.par n = -1) (q : Q .none (AE B (s.ins p n) ++ τ)) :
  Fn g (k + 2) 506 [.ref B.tr, .int p, .int n] (AE B s ++ τ) Q :=
 GY ok w hp0 hpn hn hpar (bndD3 (mex := [(zs "before", .int (-1))]) (ex := [(zs "before", .int (-1) 827)]) rfl (EE _) rfl (fun _ _ _ => rfl) (fun _ _ _ => by kernel_rfl) (fun _ _ => .cons (.int _ _) .nil) (by kernel_rfl)) q
theorem GZ {p n : Int} (ok : Ok s) (w : Big s b) (hp0 : 0 ≤ p) (hpn : p < n) (hn : n < s.names.length) (hpar : s.par n = -1) (q : Q .none (AE B (s.ins p n) ++ τ)) :
  Fn g (k + 3) 513 [.ref B.tr, .int p, .int n] (AE B s ++ τ) Q := by
 refine AN [(zs "node", .int n), (zs "parent", .int p), (zs "self", .ref B.tr)] (Hy _) (IF _) (bnd3 (fun _ _ _ => by kernel_rfl) (by kernel_rfl)) (fun L => ?_) (by decide +kernel) (by kernel_rfl) (by kernel_rfl) (by kernel_rfl)
 conv in stB _ => whnf
 conv in stS _ => whnf
 refine A6 ?_
 refine AI ?_
 refine AH ?_
 refine A4 rfl ?_
 refine Ag (DQ _) (Bw _) (E7 _) rfl ?_
 refine A5 ?_
 refine A4 rfl ?_
 refine A5 ?_
 refine A4 rfl ?_
 refine A7 ?_
 refine insert_spec3 ok w hp0 hpn hn hpar ?_
 refine ⟨rfl, ?_⟩
 refine A8 ?_
 exact AZ (Ak ..) q
end
end Mine
namespace Mine
noncomputable def St.con (s : St) (x : Int) : Option Int := (s.contents.find? (fun e => decide (e.1 = x))).map (·.2)
theorem atI_dc (l : List (Int × Int)) (x : Int) : atI (l.map dcV) x = ((l.find? (fun e => decide (e.1 = x))).map (·.2)).map V.int := by
 unfold atI
 induction l with
 | nil => rfl
 | cons a l ih =>
  simp only [List.map_cons, List.find?_cons]
  by_cases h : a.1 = x
  ·simp [h, dcV]
  ·have h' : (dcV a).1 ≠ x := h
   simp only [h, h', decide_false]; exact ih
noncomputable def St.host (s : St) : Int := if s.cur = -1 then 0 else match s.con s.cur with | some c => c | none => s.cur
noncomputable def St.put (s : St) (name : Str) (attrs : List (Str × Str)) (a c : Addr) : St := { (s.addN Ao AU name attrs a c).ins s.host s.names.length with opn := s.opn ++ [(s.names.length : Int)] }
noncomputable def St.noA (s : St) : St := { s with aA := [], cA := [] }
theorem St.put_noA (s : St) (name : Str) (attrs : List (Str × Str)) (a c : Addr) : (s.put name attrs a c).noA = (s.noA.put name attrs 0 0).noA := rfl
theorem St.con_ok {s : St} (ok : Ok s) {x c : Int} (h : s.con x = some c) : 0 ≤ c ∧ c < s.names.length := by
 unfold St.con at h
 cases e : s.contents.find? (fun e => decide (e.1 = x)) with
 | none => rw [e] at h; cases h
 | some p => rw [e] at h; cases h; exact (ok.con p (List.mem_of_find?_eq_some e)).2
theorem St.cur_ok {s : St} (ok : Ok s) (h : s.cur ≠ -1) : 0 ≤ s.cur ∧ s.cur < s.names.length := by
 obtain ⟨o, ho⟩ := St.cur_mem h
 exact ok.opn s.cur (by rw [ho]; simp)
theorem St.host_ok {s : St} (ok : Ok s) : 0 ≤ s.host ∧ s.host < s.names.length := by
 unfold St.host
 split
 ·have := ok.pos; omega
 ·rename_i h
  cases e : s.con s.cur with
  | none => exact St.cur_ok ok h
  | some c => exact St.con_ok ok e
theorem Ok.ins {s : St} (ok : Ok s) {p n : Int} (h0 : 0 ≤ p) (h1 : p < n) (hn : n < s.names.length) : Ok (s.ins p n) := by
 refine ⟨ok.sp, ok.ki, ok.te, ok.at_, ok.aA, ?_, ?_, ok.cA, ok.pos, ok.opn, ok.fmt, ?_, ok.con⟩
 ·show (s.parents.set _ _).length = _; rw [List.length_set]; exact ok.pa
 ·show (s.children.set _ _).length = _; rw [List.length_set]; exact ok.ch
 ·intro i x hx
  have hx : (s.parents.set n.toNat p)[i]? = some x := hx
  rw [List.getElem?_set] at hx
  split at hx
  ·split at hx
   ·cases hx; right; omega
   ·cases hx
  ·exact ok.up i x hx
theorem Big.ins {s : St} {b : Nat} (w : Big s b) (hb : b + 1 ≤ 1000000) {p n : Int} : Big (s.ins p n) (b + 1) := by
 refine ⟨Nat.le_succ_of_le w.n, Nat.le_succ_of_le w.opn, Nat.le_succ_of_le w.fmt, Nat.le_succ_of_le w.err, Nat.le_succ_of_le w.own, Nat.le_succ_of_le w.con, fun a h => Nat.le_succ_of_le (w.att a h), ?_, hb⟩
 intro a ha
 have ha : a ∈ s.children.set p.toNat (s.kid p ++ [n]) := ha
 rcases List.mem_or_eq_of_mem_set ha with h | h
 ·exact Nat.le_succ_of_le (w.chi a h)
 ·subst h
  rw [List.length_append]
  have : (s.kid p).length ≤ b := by
   unfold St.kid
   rw [List.getD_eq_getElem?_getD]
   cases e : s.children[p.toNat]? with
   | none => exact Nat.zero_le _
   | some y => exact w.chi y (List.mem_of_getElem? e)
  simp; omega
theorem Ok.put {s : St} (ok : Ok s) {name : Str} {attrs : List (Str × Str)} {a c : Addr} : Ok (s.put name attrs a c) := by
 obtain ⟨h0, h1⟩ := St.host_ok ok
 have hl : (s.addN Ao AU name attrs a c).names.length = s.names.length + 1 := by simp [St.addN]
 have ok1 := (ok.addN Ao AU name attrs a c).ins (p := s.host) (n := s.names.length) h0 h1 (by rw [hl]; omega)
 refine ⟨ok1.sp, ok1.ki, ok1.te, ok1.at_, ok1.aA, ok1.pa, ok1.ch, ok1.cA, ok1.pos, fun x hx => ?_, ok1.fmt, ok1.up, ok1.con⟩
 have e : (s.put name attrs a c).names.length = s.names.length + 1 := hl
 rw [e]
 rcases List.mem_append.mp hx with h | h
 ·have := ok.opn x h; omega
 ·simp at h; omega
theorem Big.put {s : St} {b : Nat} (w : Big s b) (hb : b + 2 ≤ 1000000) {name : Str} {attrs : List (Str × Str)} (ha : attrs.length ≤ b + 1) {a c : Addr} : Big (s.put name attrs a c) (b + 2) := by
 have w1 := (w.addN (by omega) ha (kind := Ao) (space := AU) (name := name) (a := a) (c := c)).ins (p := s.host) (n := s.names.length) hb
 refine ⟨w1.n, ?_, w1.fmt, w1.err, w1.own, w1.con, w1.att, w1.chi, hb⟩
 show (s.opn ++ [_]).length ≤ _
 have := w.opn
 rw [List.length_append, List.length_singleton]; omega
section
variable {g : G} {k : Nat} {B : BA} {s : St} {τ σ : Store} {Q : V → Store → Prop} {b : Nat} {x : Int}
theorem O_isNotNS {y : Str} (q : Q (.bool true) σ) : O2 g k Is σ (compareOp .IsNot) (.str y) .none Q := fun A r s v u S i j => by
 obtain ⟨t, rfl⟩ := B5 i
 rw [FB j]
 exact wpAny_isNot_other rfl (by intro x; cases x) (AM (.bool _) S q)
theorem O_isNotNN (q : Q (.bool false) σ) : O2 g k Is σ (compareOp .IsNot) .none .none Q := fun A r s v u S i j => by
 rw [FB i, FB j]
 exact wpAny_isNot_self rfl (AM (.bool _) S q)
theorem place_spec (ok : Ok s) (w : Big s b) (q : Q (.tup [.int s.host, .int (-1)]) (AE B s ++ τ)) : Fn g (k + 2) 192 [.ref B.bd] (AE B s ++ τ) Q := by
 refine AN [(zs "target", .int (-1)), (zs "builder", .ref B.bd)] (lk_place_for _) (cd_place_for _) (bndD1 (mex := [(zs "target", .int (-1))]) (ex := [(zs "target", .int (-1) 401)]) rfl (dl_place_for _) rfl (fun _ => rfl) (fun _ => by kernel_rfl) (fun _ _ => .cons (.int _ _) .nil) (by kernel_rfl)) (fun L => ?_) (by decide +kernel) (by kernel_rfl) (by kernel_rfl) (by kernel_rfl)
 conv in stB _ => whnf
 conv in stS _ => whnf
 refine A6 ?_
 refine AD ?_
 refine AC ?_
 refine A4 rfl ?_
 refine CE ?_
 refine AF ?_
 refine A6 ?_
 refine AD ?_
 refine A4 rfl ?_
 refine AF ?_
 refine A6 ?_
 refine AY ?_
 refine AB ?_
 refine A4 rfl ?_
 refine AX ?_
 refine AL ?_
 refine B8 ?_
 refine CX ?_
 refine ⟨_, rfl, ?_⟩
 refine DY rfl ?_
 refine A6 ?_
 refine AD ?_
 refine AH ?_
 refine AC ?_
 refine A4 rfl ?_
 refine Ai ?_
 refine BJ (Cd _) (Ba _) (CZ _) rfl ?_
 refine Fa (Nat.le_trans w.opn w.small) ?_
 refine AF ?_
 refine A8 ?_
 refine A6 ?_
 refine AY ?_
 refine AB ?_
 refine A4 rfl ?_
 refine AX ?_
 refine AL ?_
 refine B8 ?_
 refine CX ?_
 refine ⟨_, rfl, ?_⟩
 refine AQ (fun h => ?_) (fun h => ?_)
 ·have hc : s.cur = -1 := by simpa using h
  refine A6 ?_
  refine AG ?_
  refine Ah ?_
  refine A5 ?_
  refine AL ?_
  refine A5 ?_
  refine AX ?_
  refine AL ?_
  refine B8 ?_
  refine A7 ?_
  refine ⟨sz_lit rfl, ?_⟩
  rw [show s.host = 0 by unfold St.host; rw [if_pos hc]] at q
  exact AR (Ak ..) q
 ·have hc : s.cur ≠ -1 := by simpa using h
  refine A8 ?_
  refine A6 ?_
  refine AD ?_
  refine AX ?_
  refine AL ?_
  refine B8 ?_
  refine AF ?_
  refine A6 ?_
  refine AY ?_
  refine BO ?_
  refine B7 ?_
  refine AC ?_
  refine A4 rfl ?_
  refine A_b_is_foster ?_
  refine An ?_
  refine CH rfl ?_
  refine CH rfl ?_
  refine A8 ?_
  refine A6 ?_
  refine AY ?_
  refine AB ?_
  refine A4 rfl ?_
  refine AC ?_
  refine A4 rfl ?_
  refine Bq ?_
  refine O_inDI (CR _) ?_
  rw [atI_dc]
  refine ⟨_, rfl, ?_⟩
  refine AQ (fun h => ?_) (fun h => ?_)
  ·obtain ⟨c, hcon⟩ : ∃ c, s.con s.cur = some c := by
    have h : ((s.con s.cur).map V.int).isSome = true := h
    cases e : s.con s.cur with
    | none => rw [e] at h; cases h
    | some c => exact ⟨c, rfl⟩
   refine A6 ?_
   refine AG ?_
   refine Ah ?_
   refine A5 ?_
   refine AO ?_
   refine AC ?_
   refine A4 rfl ?_
   refine Bq ?_
   refine A4 rfl ?_
   refine O_itemDI (CR _) (e := .int c) (by rw [atI_dc]; show (s.con s.cur).map V.int = _; rw [hcon]; rfl) ?_
   refine A5 ?_
   refine AX ?_
   refine AL ?_
   refine B8 ?_
   refine A7 ?_
   refine ⟨sz_lit rfl, ?_⟩
   rw [show s.host = c by unfold St.host; rw [if_neg hc, hcon]] at q
   exact AR (Ak ..) q
  ·have hcon : s.con s.cur = none := by
    have h : ((s.con s.cur).map V.int).isSome = false := h
    cases e : s.con s.cur with
    | none => rfl
    | some c => rw [e] at h; cases h
   refine A8 ?_
   refine A6 ?_
   refine AG ?_
   refine Ah ?_
   refine A5 ?_
   refine A4 rfl ?_
   refine A5 ?_
   refine A4 rfl ?_
   refine A7 ?_
   refine ⟨sz_lit rfl, ?_⟩
   rw [show s.host = s.cur by unfold St.host; rw [if_neg hc, hcon]] at q
   exact AR (Ak ..) q
theorem make_spec {space name : Str} {attrs : List (Str × Str)} (ok : Ok s) (w : Big s b) (ha : attrs.length ≤ b + 1) (hb : b + 1 ≤ 1000000) (hn : (space == AU && name == templateS) = false)
  (q : ∀ a c, Q (.int s.names.length) (AE B (s.addN Ao space name attrs a c) ++ τ)) : Fn g (k + 3) 200 [.ref B.bd, .str name, .tup (attrs.map prV), .str space] (AE B s ++ τ) Q := by
 refine AN [(zs "space", .str space), (zs "attrs", .tup (attrs.map prV)), (zs "name", .str name), (zs "builder", .ref B.bd)] (lk_make _) (cd_make _) (bndD4 (mex := []) (ex := []) rfl (dl_make _) rfl (fun _ _ _ _ => rfl) (fun _ _ _ _ => by kernel_rfl) (fun _ _ => .nil) (by kernel_rfl)) (fun L => ?_) (by decide +kernel) (by kernel_rfl) (by kernel_rfl) (by kernel_rfl)
 conv in stB _ => whnf
 conv in stS _ => whnf
 refine A6 ?_
 refine AG ?_
 refine AH ?_
 refine AC ?_
 refine A4 rfl ?_
 refine CE ?_
 refine Ag (DQ _) (Bw _) (Ce _) rfl ?_
 refine A5 ?_
 refine A4 rfl ?_
 refine A5 ?_
 refine A4 rfl ?_
 refine A5 ?_
 refine A4 rfl ?_
 refine A7 ?_
 refine Eo ok w ha hb (fun _ a c => ?_) (fun h => by rw [hn] at h; cases h)
 exact AR (Ak ..) (q a c)
theorem St.par_new (s : St) (ok : Ok s) {name : Str} {attrs : List (Str × Str)} {a c : Addr} : (s.addN Ao AU name attrs a c).par s.names.length = -1 := by
 unfold St.par
 show (s.parents ++ [-1]).getD _ _ = _
 rw [List.getD_eq_getElem?_getD, Int.toNat_natCast, List.getElem?_append_right (by rw [ok.pa]; exact Nat.le_refl _), ok.pa, Nat.sub_self]; rfl
theorem Ep {name : Str} {attrs : List (Str × Str)} (ok : Ok s) (w : Big s b) (ha : attrs.length ≤ b + 1) (hb : b + 2 ≤ 1000000) (hn : (name == templateS) = false)
  (q : ∀ a c, Q (.int s.names.length) (AE B (s.put name attrs a c) ++ τ)) : Fn g (k + 4) 209 [.ref B.bd, .str name, .tup (attrs.map prV)] (AE B s ++ τ) Q := by
 refine AN [(zs "space", .str AU), (zs "attrs", .tup (attrs.map prV)), (zs "name", .str name), (zs "builder", .ref B.bd)] (FQ _) (FW _) (bndD3 (mex := [(zs "space", .str AU)]) (ex := [(zs "space", .str (zs "html") 424)]) rfl (FZ _) rfl (fun _ _ _ => rfl) (fun _ _ _ => by kernel_rfl) (fun _ _ => .cons (.str _ _) .nil) (by kernel_rfl)) (fun L => ?_) (by decide +kernel) (by kernel_rfl) (by kernel_rfl) (by kernel_rfl)
 conv in stB _ => whnf
 conv in stS _ => whnf
 refine A6 ?_
 refine Ha ?_
 refine AJ (gl_place_for _) (kp_place_for _) ?_
 refine A5 ?_
 refine A4 rfl ?_
 refine A7 ?_
 refine place_spec ok w ?_
 refine C1 rfl ?_
 refine BB ?_
 refine AT ?_
 refine AF ?_
 refine BB ?_
 refine AT ?_
 refine AF ?_
 refine DJ ?_
 refine A6 ?_
 refine AD ?_
 refine AJ (gl_make _) (kp_make _) ?_
 refine A5 ?_
 refine A4 rfl ?_
 refine A5 ?_
 refine A4 rfl ?_
 refine A5 ?_
 refine A4 rfl ?_
 refine A5 ?_
 refine A4 rfl ?_
 refine A7 ?_
 refine make_spec ok w ha (by omega) (by rw [hn, Bool.and_false]) fun a c => ?_
 have ok1 := ok.addN Ao AU name attrs a c
 have w1 := w.addN (by omega) ha (kind := Ao) (space := AU) (name := name) (a := a) (c := c)
 obtain ⟨h0, h1⟩ := St.host_ok ok
 have hl : (s.addN Ao AU name attrs a c).names.length = s.names.length + 1 := by simp [St.addN]
 refine AF ?_
 refine A6 ?_
 refine AI ?_
 refine AH ?_
 refine AC ?_
 refine A4 rfl ?_
 refine CE ?_
 refine Ag (DQ _) (Bw _) (E7 _) rfl ?_
 refine A5 ?_
 refine A4 rfl ?_
 refine A5 ?_
 refine A4 rfl ?_
 refine A5 ?_
 refine A4 rfl ?_
 refine A7 ?_
 refine insert_spec4 ok1 w1 h0 h1 (by rw [hl]; omega) (St.par_new s ok) ?_
 refine ⟨rfl, ?_⟩
 refine A6 ?_
 refine AI ?_
 refine AH ?_
 refine AC ?_
 refine A4 rfl ?_
 refine Ai ?_
 refine Ag (Cd _) (Ba _) (DF _) rfl ?_
 refine A5 ?_
 refine A4 rfl ?_
 refine A7 ?_
 refine push_spec (Nat.le_trans w.opn w.small) ?_
 refine ⟨rfl, ?_⟩
 refine A6 ?_
 refine AG ?_
 refine A4 rfl ?_
 exact AR (Ak ..) (q a c)
noncomputable def formedL : List Str := sL ["button", "fieldset", "input", "object", "output", "select", "textarea", "img"]
noncomputable def St.assoc (s : St) (x : Int) : St :=
 if s.form != -1 && (formedL.contains (s.na x) && ((s.na x == zs "img" || ((s.at x).find? (fun p => p.1 == zs "form")).isNone) && !s.hasName templateS)) then s.putO x s.form else s
theorem assoc_spec (ok : Ok s) (w : Big s b) (h0 : 0 ≤ x) (h1 : x < s.names.length) (q : Q .none (AE B (s.assoc x) ++ τ)) : Fn g (k + 3) 230 [.ref B.bd, .int x] (AE B s ++ τ) Q := by
 refine AN [(zs "node", .int x), (zs "builder", .ref B.bd)] (lk_associate _) (cd_associate _) (DB (fun _ _ => by kernel_rfl) (by kernel_rfl)) (fun L => ?_) (by decide +kernel) (by kernel_rfl) (by kernel_rfl) (by kernel_rfl)
 conv in stB _ => whnf
 conv in stS _ => whnf
 refine A6 ?_
 refine AY ?_
 refine GS ?_
 refine AB ?_
 refine AC ?_
 refine A4 rfl ?_
 refine Cy ?_
 refine AX ?_
 refine AL ?_
 refine B8 ?_
 refine CX ?_
 refine ⟨_, rfl, ?_⟩
 refine AQ (fun h => ?_) (fun h => ?_)
 ·refine DY rfl ?_
  refine A6 ?_
  refine CP ?_
  have e : (s.form != -1) = false := by rw [bne, h]; rfl
  unfold St.assoc at q
  rw [e, Bool.false_and, if_neg (by decide)] at q
  exact AR (Ak ..) q
 have hf : (s.form != -1) = true := by rw [bne, h]; rfl
 refine F0 ?_
 refine AB ?_
 refine AC ?_
 refine A4 rfl ?_
 refine Cy ?_
 refine AC ?_
 refine A4 rfl ?_
 refine A_b_context ?_
 refine CX ?_
 refine ⟨_, rfl, ?_⟩
 refine CH h ?_
 refine A8 ?_
 refine A6 ?_
 refine AD ?_
 refine AC ?_
 refine A4 rfl ?_
 refine CE ?_
 refine AF ?_
 refine A6 ?_
 refine AD ?_
 refine AO ?_
 refine AC ?_
 refine A4 rfl ?_
 refine Be ?_
 refine A4 rfl ?_
 refine O_na ok h0 h1 w ?_
 refine AF ?_
 refine A6 ?_
 refine AY ?_
 refine AB ?_
 refine A4 rfl ?_
 refine Ah ?_
 refine A5 ?_
 refine A9 ?_
 refine A5 ?_
 refine A9 ?_
 refine A5 ?_
 refine A9 ?_
 refine A5 ?_
 refine A9 ?_
 refine A5 ?_
 refine A9 ?_
 refine A5 ?_
 refine A9 ?_
 refine A5 ?_
 refine A9 ?_
 refine A5 ?_
 refine A9 ?_
 refine A7 ?_
 refine ⟨sz_lit rfl, ?_⟩
 refine O_ninTS (xs := sL ["button", "fieldset", "input", "object", "output", "select", "textarea", "img"]) ?_
 refine ⟨_, rfl, ?_⟩
 refine AQ (fun h2 => ?_) (fun h2 => ?_)
 ·refine A6 ?_
  refine CP ?_
  have e : formedL.contains (s.na x) = false := by
   have h2 : (!formedL.contains (s.na x)) = true := h2
   simpa using h2
  unfold St.assoc at q
  rw [e, Bool.false_and, Bool.and_false, if_neg (by decide)] at q
  exact AR (Ak ..) q
 have hm : formedL.contains (s.na x) = true := by
  have h2 : (!formedL.contains (s.na x)) = false := h2
  simpa using h2
 unfold St.assoc at q
 rw [hf, hm, Bool.true_and, Bool.true_and] at q
 refine A8 ?_
 refine A6 ?_
 refine AY ?_
 refine DS (c := !(s.na x == zs "img" || ((s.at x).find? (fun p => p.1 == zs "form")).isNone)) ?_ (fun h => ?_) (fun h => ?_)
 ·refine BO ?_
  refine AB ?_
  refine A4 rfl ?_
  refine A9 ?_
  refine Ej ?_
  refine ⟨_, rfl, ?_⟩
  refine AQ (fun h => ?_) (fun h => ?_)
  ·have e : (s.na x == zs "img") = false := by simpa [bne] using h
   refine Bi ?_
   refine AB ?_
   refine AH ?_
   refine A4 rfl ?_
   refine Ag (DQ _) (Bw _) (ok_Tree_value _) rfl ?_
   refine A5 ?_
   refine A4 rfl ?_
   refine A5 ?_
   refine A9 ?_
   refine A7 ?_
   refine value_spec ok w h0 h1 ?_
   unfold St.val
   cases hv : (s.at x).find? (fun p => p.1 == zs "form") with
   | none =>
    refine WE_none ?_
    refine O_isNotNN ?_
    refine ⟨_, rfl, ?_⟩
    exact ⟨by rw [e]; rfl, rfl⟩
   | some p =>
    refine WE_none ?_
    refine O_isNotNS ?_
    refine ⟨_, rfl, ?_⟩
    exact ⟨by rw [e]; rfl, rfl⟩
  ·have e : (s.na x == zs "img") = true := by simpa [bne] using h
   exact ⟨by rw [e]; rfl, rfl⟩
 ·refine A6 ?_
  refine CP ?_
  have e : (s.na x == zs "img" || ((s.at x).find? (fun p => p.1 == zs "form")).isNone) = false := by cases hh : (s.na x == zs "img" || ((s.at x).find? (fun p => p.1 == zs "form")).isNone) with | true => rw [hh] at h; cases h | false => rfl
  rw [e, Bool.false_and, if_neg (by decide)] at q
  exact AR (Ak ..) q
 ·have e : (s.na x == zs "img" || ((s.at x).find? (fun p => p.1 == zs "form")).isNone) = true := by cases hh : (s.na x == zs "img" || ((s.at x).find? (fun p => p.1 == zs "form")).isNone) with | false => rw [hh] at h; cases h | true => rfl
  rw [e, Bool.true_and] at q
  refine A8 ?_
  refine A6 ?_
  refine AY ?_
  refine Df ?_
  refine B7 ?_
  refine AH ?_
  refine AC ?_
  refine A4 rfl ?_
  refine Ai ?_
  refine Ag (Cd _) (Ba _) (CO _) rfl ?_
  refine A5 ?_
  refine A9 ?_
  refine A7 ?_
  refine Em ok w ?_
  refine An ?_
  refine AQ (fun h => ?_) (fun h => ?_)
  ·have e : (!s.hasName templateS) = true := h
   rw [if_pos e] at q
   refine A6 ?_
   refine BF ?_
   refine AC ?_
   refine A4 rfl ?_
   refine Cy ?_
   refine AC ?_
   refine A4 rfl ?_
   refine Hl ?_
   refine A4 rfl ?_
   refine O_setDI (u_owners _ (putK_dc _ _ _)) (by rw [List.length_map]; exact line_le w.own w.small) ?_
   refine A8 ?_
   refine A8 ?_
   exact AZ (Ak ..) q
  ·have e : (!s.hasName templateS) = false := h
   rw [if_neg (by rw [e]; decide)] at q
   refine A8 ?_
   refine A8 ?_
   exact AZ (Ak ..) q
end
end Mine
namespace Mine
noncomputable def Cf (name : Str) (attrs : List (Str × Str)) : V := .tup [.str (zs "start"), .str name, .tup (attrs.map prV), .bool false]
noncomputable def St.tokd (s : St) (name : Str) (attrs : List (Str × Str)) (a c : Addr) : St := (s.put name attrs a c).assoc s.names.length
theorem Ok.assoc {s : St} (ok : Ok s) {x : Int} : Ok (s.assoc x) := by
 unfold St.assoc
 split
 ·exact ⟨ok.sp, ok.ki, ok.te, ok.at_, ok.aA, ok.pa, ok.ch, ok.cA, ok.pos, ok.opn, ok.fmt, ok.up, ok.con⟩
 ·exact ok
theorem Big.assoc {s : St} {b : Nat} (w : Big s b) (hb : b + 1 ≤ 1000000) {x : Int} : Big (s.assoc x) (b + 1) := by
 have up : Big s (b + 1) := ⟨Nat.le_succ_of_le w.n, Nat.le_succ_of_le w.opn, Nat.le_succ_of_le w.fmt, Nat.le_succ_of_le w.err, Nat.le_succ_of_le w.own, Nat.le_succ_of_le w.con, fun a h => Nat.le_succ_of_le (w.att a h), fun a h => Nat.le_succ_of_le (w.chi a h), hb⟩
 unfold St.assoc
 split
 ·refine ⟨up.n, up.opn, up.fmt, up.err, ?_, up.con, up.att, up.chi, hb⟩
  exact Nat.le_trans (EF _ _ _) (Nat.succ_le_succ w.own)
 ·exact up
theorem Big.up {s : St} {b b' : Nat} (w : Big s b) (h : b ≤ b') (hb : b' ≤ 1000000) : Big s b' :=
 ⟨Nat.le_trans w.n h, Nat.le_trans w.opn h, Nat.le_trans w.fmt h, Nat.le_trans w.err h, Nat.le_trans w.own h, Nat.le_trans w.con h, fun a q => Nat.le_trans (w.att a q) h, fun a q => Nat.le_trans (w.chi a q) h, hb⟩
theorem Ok.tokd {s : St} (ok : Ok s) {name : Str} {attrs : List (Str × Str)} {a c : Addr} : Ok (s.tokd name attrs a c) := ok.put.assoc
theorem Big.tokd {s : St} {b : Nat} (w : Big s b) (hb : b + 3 ≤ 1000000) {name : Str} {attrs : List (Str × Str)} (ha : attrs.length ≤ b + 1) {a c : Addr} : Big (s.tokd name attrs a c) (b + 3) := (w.put (by omega) ha).assoc hb
section
variable {g : G} {k : Nat} {B : BA} {s : St} {τ σ : Store} {Q : V → Store → Prop} {b : Nat} {x : Int} {name : Str} {attrs : List (Str × Str)}
theorem BR (ok : Ok s) (w : Big s b) (ha : attrs.length ≤ b + 1) (hb : b + 3 ≤ 1000000) (hn : (name == templateS) = false)
  (q : ∀ a c, Q (.int s.names.length) (AE B (s.tokd name attrs a c) ++ τ)) : Fn g (k + 5) 216 [.ref B.bd, Cf name attrs] (AE B s ++ τ) Q := by
 refine AN [(zs "token", Cf name attrs), (zs "builder", .ref B.bd)] (Gv _) (H1 _) (DB (fun _ _ => by kernel_rfl) (by kernel_rfl)) (fun L => ?_) (by decide +kernel) (by kernel_rfl) (by kernel_rfl) (by kernel_rfl)
 conv in stB _ => whnf
 conv in stS _ => whnf
 refine A6 ?_
 refine AD ?_
 refine AJ (DC _) (DH _) ?_
 refine A5 ?_
 refine A4 rfl ?_
 refine A5 ?_
 refine AO ?_
 refine A4 rfl ?_
 refine AL ?_
 refine CA 1 rfl rfl ?_
 refine A5 ?_
 refine AO ?_
 refine A4 rfl ?_
 refine AL ?_
 refine CA 2 rfl rfl ?_
 refine A7 ?_
 refine Ep ok w ha (by omega) hn fun a c => ?_
 refine AF ?_
 refine A6 ?_
 refine AI ?_
 refine AJ (gl_associate _) (kp_associate _) ?_
 refine A5 ?_
 refine A4 rfl ?_
 refine A5 ?_
 refine A4 rfl ?_
 refine A7 ?_
 have hl : (s.put name attrs a c).names.length = s.names.length + 1 := by simp [St.put, St.ins, St.addN]
 refine assoc_spec ok.put (w.put (by omega) ha) (by omega) (by rw [hl]; omega) ?_
 refine ⟨rfl, ?_⟩
 refine A6 ?_
 refine AG ?_
 refine A4 rfl ?_
 exact AR (Ak ..) (q a c)
noncomputable def St.voided (s : St) (name : Str) (attrs : List (Str × Str)) (a c : Addr) : St := { s.tokd name attrs a c with opn := s.opn, ack := true }
theorem EG (s : St) (name : Str) (attrs : List (Str × Str)) (a c : Addr) : (s.tokd name attrs a c).opn = s.opn ++ [(s.names.length : Int)] := by
 unfold St.tokd St.assoc
 split <;> rfl
theorem ins_void_spec (ok : Ok s) (w : Big s b) (ha : attrs.length ≤ b + 1) (hb : b + 3 ≤ 1000000) (hn : (name == templateS) = false)
  (q : ∀ a c, Q (.int s.names.length) (AE B (s.voided name attrs a c) ++ τ)) : Fn g (k + 6) 223 [.ref B.bd, Cf name attrs] (AE B s ++ τ) Q := by
 refine AN [(zs "token", Cf name attrs), (zs "builder", .ref B.bd)] (Hr _) (I3 _) (DB (fun _ _ => by kernel_rfl) (by kernel_rfl)) (fun L => ?_) (by decide +kernel) (by kernel_rfl) (by kernel_rfl) (by kernel_rfl)
 conv in stB _ => whnf
 conv in stS _ => whnf
 refine A6 ?_
 refine AD ?_
 refine AJ (B3 _) (B4 _) ?_
 refine A5 ?_
 refine A4 rfl ?_
 refine A5 ?_
 refine A4 rfl ?_
 refine A7 ?_
 refine BR ok w ha hb hn fun a c => ?_
 refine AF ?_
 refine A6 ?_
 refine AI ?_
 refine AH ?_
 refine AC ?_
 refine A4 rfl ?_
 refine Ai ?_
 refine BJ (Cd _) (Ba _) (CS _) rfl ?_
 refine IK (EG s name attrs a c) (Nat.le_trans (w.tokd hb ha).opn hb) ?_
 refine ⟨rfl, ?_⟩
 refine A6 ?_
 refine AK ?_
 refine As ?_
 refine A4 rfl ?_
 refine Ck ?_
 refine A6 ?_
 refine AG ?_
 refine A4 rfl ?_
 exact AR (Ak ..) (q a c)
noncomputable def St.reAt (s : St) : Nat → Nat
 | 0 => 0
 | n + 1 => if s.fmt.getD n (-1) != -1 && !s.opn.contains (s.fmt.getD n (-1)) then s.reAt n else n + 1
noncomputable def St.reOne (s : St) (i : Nat) (a c : Addr) : St := { s.put (s.na (s.fmt.getD i (-1))) (s.at (s.fmt.getD i (-1))) a c with fmt := s.fmt.set i s.names.length }
noncomputable def St.reGo (s : St) (i : Nat) : Nat → St
 | 0 => s
 | f + 1 => (s.reOne i 0 0).reGo (i + 1) f
noncomputable def St.recon (s : St) : St := s.reGo (s.reAt s.fmt.length) (s.fmt.length - s.reAt s.fmt.length)
theorem St.reOne_noA (s : St) (i : Nat) (a c : Addr) : (s.reOne i a c).noA = (s.noA.reOne i 0 0).noA := rfl
theorem St.reGo_noA : ∀ (f : Nat) (s : St) (i : Nat), (s.reGo i f).noA = (s.noA.reGo i f).noA
 | 0, s, i => rfl
 | f + 1, s, i => by
  show ((s.reOne i 0 0).reGo (i + 1) f).noA = ((s.noA.reOne i 0 0).reGo (i + 1) f).noA
  rw [St.reGo_noA f (s.reOne i 0 0), St.reGo_noA f (s.noA.reOne i 0 0), ← St.reOne_noA]
theorem St.reAt_le (s : St) : ∀ n, s.reAt n ≤ n
 | 0 => Nat.le_refl _
 | n + 1 => by
  unfold St.reAt
  split
  ·exact Nat.le_succ_of_le (s.reAt_le n)
  ·exact Nat.le_refl _
theorem St.reAt_neg (s : St) : ∀ n i, s.reAt n ≤ i → i < n → s.fmt.getD i (-1) ≠ -1
 | 0, i, _, h => by omega
 | n + 1, i, h1, h2 => by
  unfold St.reAt at h1
  split at h1
  ·rename_i hh
   by_cases e : i = n
   ·subst e; simp at hh; exact hh.1
   ·exact s.reAt_neg n i h1 (by omega)
  ·omega
theorem DK {xs : List Int} {i j : Nat} {v d : Int} (h : i ≠ j) : (xs.set i v).getD j d = xs.getD j d := by
 rw [List.getD_eq_getElem?_getD, List.getD_eq_getElem?_getD, List.getElem?_set_ne h]
theorem Ok.fmt' {s : St} (ok : Ok s) {f : List Int} (h : ∀ x ∈ f, x = -1 ∨ (0 ≤ x ∧ x < s.names.length)) : Ok { s with fmt := f } :=
 ⟨ok.sp, ok.ki, ok.te, ok.at_, ok.aA, ok.pa, ok.ch, ok.cA, ok.pos, ok.opn, h, ok.up, ok.con⟩
theorem put_len (s : St) (name : Str) (attrs : List (Str × Str)) (a c : Addr) : (s.put name attrs a c).names.length = s.names.length + 1 := by simp [St.put, St.ins, St.addN]
theorem Ok.reOne {s : St} (ok : Ok s) {i : Nat} {a c : Addr} : Ok (s.reOne i a c) := by
 refine Ok.fmt' (s := s.put (s.na (s.fmt.getD i (-1))) (s.at (s.fmt.getD i (-1))) a c) ok.put fun x hx => ?_
 rw [put_len]
 rcases List.mem_or_eq_of_mem_set hx with h | h
 ·have := ok.fmt x h; omega
 ·omega
theorem at_len {s : St} {b : Nat} (w : Big s b) (x : Int) : (s.at x).length ≤ b := by
 unfold St.at
 rw [List.getD_eq_getElem?_getD]
 cases e : s.attrs[x.toNat]? with
 | none => exact Nat.zero_le _
 | some y => exact w.att y (List.mem_of_getElem? e)
theorem Big.reOne {s : St} {b : Nat} (w : Big s b) (hb : b + 2 ≤ 1000000) {i : Nat} {a c : Addr} : Big (s.reOne i a c) (b + 2) := by
 have w1 := w.put hb (name := s.na (s.fmt.getD i (-1))) (attrs := s.at (s.fmt.getD i (-1))) (Nat.le_succ_of_le (at_len w _)) (a := a) (c := c)
 exact ⟨w1.n, w1.opn, by show (s.fmt.set _ _).length ≤ _; rw [List.length_set]; exact w1.fmt, w1.err, w1.own, w1.con, w1.att, w1.chi, hb⟩
theorem na_put {s : St} {x : Int} (h0 : 0 ≤ x) (h1 : x < s.names.length) (name : Str) (attrs : List (Str × Str)) (a c : Addr) : (s.put name attrs a c).na x = s.na x := by
 unfold St.na
 show (s.names ++ [name]).getD _ _ = _
 rw [List.getD_eq_getElem?_getD, List.getD_eq_getElem?_getD, List.getElem?_append_left (by omega)]
theorem fItem {s : St} {i : Nat} {x : Int} (h : i < s.fmt.length) (e : x = i) : (s.fmt.map V.int)[x.toNat]? = some (V.int (s.fmt.getD i (-1))) := by
 subst e
 rw [Int.toNat_natCast, List.getElem?_map, List.getElem?_eq_getElem h, List.getD_eq_getElem?_getD, List.getElem?_eq_getElem h]; rfl
theorem fmt_rng {s : St} (ok : Ok s) {i : Nat} (h : i < s.fmt.length) (hn : s.fmt.getD i (-1) ≠ -1) : 0 ≤ s.fmt.getD i (-1) ∧ s.fmt.getD i (-1) < s.names.length := by
 have e : s.fmt.getD i (-1) = s.fmt[i] := by rw [List.getD_eq_getElem?_getD, List.getElem?_eq_getElem h]; rfl
 rw [e] at hn ⊢
 rcases ok.fmt _ (List.getElem_mem h) with q | q
 ·exact absurd q hn
 ·exact q
inductive RcI (B : BA) (s : St) (b : Nat) (τ' : Store) (n : Nat) (R : Store) (m : Loc) (τ₂ : Store) : Prop
 | mk (s1 : St) (i : Nat) (h0 : n = s.fmt.length - i) (h1 : i ≤ s.fmt.length) (h2 : m = [(zs "at", V.int (i : Nat)), (zs "formatting", .ref B.fm), (zs "tree", .ref B.tr), (zs "builder", .ref B.bd)]) (h3 : R = AE B s1) (h4 : τ₂ = τ') (h5 : Ok s1) (h6 : Big s1 (b + 2 * i)) (h7 : s1.fmt.length = s.fmt.length) (h8 : ∀ j, i ≤ j → j < s.fmt.length → s1.fmt.getD j (-1) ≠ -1 ∧ (s1.na (s1.fmt.getD j (-1)) == templateS) = false) (h9 : (s1.reGo i (s.fmt.length - i)).noA = s.recon.noA) : RcI B s b τ' n R m τ₂
theorem IP (ok : Ok s) (w : Big s b) (hb : b + 2 * s.fmt.length + 2 ≤ 1000000) (ht : ∀ x ∈ s.fmt, x = -1 ∨ (s.na x == templateS) = false)
  (q : ∀ s', s'.noA = s.recon.noA → Ok s' → Big s' (b + 2 * s.fmt.length) → Q .none (AE B s' ++ τ)) : Fn g (k + 5) 237 [.ref B.bd] (AE B s ++ τ) Q := by
 refine AN [(zs "builder", .ref B.bd)] (Hs _) (I5 _) (Fz (fun _ => by kernel_rfl) (by kernel_rfl)) (fun L => ?_) (by decide +kernel) (by kernel_rfl) (by kernel_rfl) (by kernel_rfl)
 conv in stB _ => whnf
 conv in stS _ => whnf
 refine A6 ?_
 refine AD ?_
 refine AC ?_
 refine A4 rfl ?_
 refine CE ?_
 refine AF ?_
 refine A6 ?_
 refine AD ?_
 refine AC ?_
 refine A4 rfl ?_
 refine Bj ?_
 refine AF ?_
 refine A6 ?_
 refine AD ?_
 refine Ar (BN _) rfl (by decide) ?_
 refine A5 ?_
 refine AC ?_
 refine A4 rfl ?_
 refine Bf ?_
 refine A7 ?_
 refine BT (CD _) (by rw [List.length_map]; exact line_le w.fmt w.small) ?_
 rw [List.length_map]
 refine AF ?_
 refine A6 ?_
 have hz := Nat.le_trans w.fmt w.small
 refine Cs (L := L) (fun n R m τ' => n ≤ s.fmt.length ∧ R = AE B s ∧ m = [(zs "at", .int n), (zs "formatting", .ref B.fm), (zs "tree", .ref B.tr), (zs "builder", .ref B.bd)] ∧ τ' = τ ∧ s.reAt n = s.reAt s.fmt.length) s.fmt.length ⟨_, _, _, _, rfl, Sub.refl _, Nat.le_refl _, rfl, rfl, rfl, rfl⟩ ?_
 rintro n R m τ' ⟨hn, rfl, rfl, rfl, he⟩
 have cont : ∀ (hs : s.reAt n = n), WS g (k + 4) (Fm (AE B s) L [(zs "at", .int n), (zs "formatting", .ref B.fm), (zs "tree", .ref B.tr), (zs "builder", .ref B.bd)] τ') (envOf (zs "reconstruct") (stS (tS 19)) L 237 (Value.ref 236)) ((stB (tS 19)).drop 4) (BC Q) := by
  intro hs
  conv in stB _ => whnf
  conv in stS _ => whnf
  show WS g (k + 4) _ _ [_] _
  refine A6 ?_
  rw [hs] at he
  refine Cs (L := L) (RcI B s b τ') (s.fmt.length - n) ?_ ?_
  ·refine ⟨_, _, _, _, rfl, Sub.refl _, s, n, rfl, hn, rfl, rfl, rfl, ok, w.up (by omega) (by omega), rfl, fun j h1 h2 => ?_, ?_⟩
   ·have hj := s.reAt_neg s.fmt.length j (by omega) h2
    refine ⟨hj, ?_⟩
    have e : s.fmt.getD j (-1) = s.fmt[j] := by rw [List.getD_eq_getElem?_getD, List.getElem?_eq_getElem h2]; rfl
    rw [e] at hj ⊢
    exact (ht _ (List.getElem_mem h2)).resolve_left hj
   ·unfold St.recon; rw [← he]
  rintro n' R m τ₂ ⟨s1, i, rfl, hi, rfl, rfl, rfl, ok1, w1, hl, hf, hg⟩
  have hb1 : b + 2 * i + 2 ≤ 1000000 := by omega
  refine AB ?_
  refine A4 rfl ?_
  refine Ar (BN _) rfl (by decide) ?_
  refine A5 ?_
  refine AC ?_
  refine A4 rfl ?_
  refine Bf ?_
  refine A7 ?_
  refine BT (CD _) (by rw [List.length_map]; exact line_le w1.fmt w1.small) ?_
  rw [List.length_map, hl]
  refine O_ltI ?_
  refine ⟨_, rfl, ?_⟩
  refine AQ (fun h => ?_) (fun h => ?_)
  ·have hlt : i < s.fmt.length := by simp at h; omega
   have hlt1 : i < s1.fmt.length := by omega
   obtain ⟨f1, f2⟩ := hf i (Nat.le_refl _) hlt
   obtain ⟨r0, r1⟩ := fmt_rng ok1 hlt1 f1
   refine A6 ?_
   refine AD ?_
   refine AO ?_
   refine AC ?_
   refine A4 rfl ?_
   refine Bf ?_
   refine A4 rfl ?_
   refine Ay (CD _) (by omega) (by omega) (fItem hlt1 rfl) ?_
   refine AF ?_
   refine A6 ?_
   refine BF ?_
   refine AJ (DC _) (DH _) ?_
   refine A5 ?_
   refine A4 rfl ?_
   refine A5 ?_
   refine AO ?_
   refine AC ?_
   refine A4 rfl ?_
   refine Be ?_
   refine A4 rfl ?_
   refine O_na ok1 r0 r1 w1 ?_
   refine A5 ?_
   refine Ap (gl_tuple _) rfl (by decide) ?_
   refine A5 ?_
   refine AO ?_
   refine AC ?_
   refine A4 rfl ?_
   refine DX ?_
   refine A4 rfl ?_
   refine O_aA ok1 r0 r1 w1 ?_
   refine A7 ?_
   refine Cl_tupleL (m_at ok1 r0 r1) (by rw [List.length_map]; exact line_le (at_len w1 _) w1.small) ?_
   refine A7 ?_
   refine Ep ok1 w1 (Nat.le_succ_of_le (at_len w1 _)) hb1 f2 fun a c => ?_
   refine AC ?_
   refine A4 rfl ?_
   refine Bf ?_
   refine A4 rfl ?_
   refine O_setL (Hn (s := s1.put (s1.na (s1.fmt.getD i (-1))) (s1.at (s1.fmt.getD i (-1))) a c) (s1.fmt.set i s1.names.length) (by rw [List.map_set]; rfl)) (by omega) (by omega) (by rw [List.length_map]; exact hlt1) ?_
   refine A6 ?_
   refine HI rfl ?_
   refine AL ?_
   refine O_iadd ?_
   refine AF ?_
   refine A8 ?_
   refine ⟨s.fmt.length - (i + 1), _, [(zs "at", V.int ((i + 1 : Nat))), (zs "formatting", .ref B.fm), (zs "tree", .ref B.tr), (zs "builder", .ref B.bd)], _, _, by omega, rfl, Sub.cons (congrArg (fun x => some (V.int x)) (by omega)) (Sub.cons rfl (Sub.cons rfl (Sub.cons rfl .nil))), s1.reOne i a c, i + 1, rfl, hlt, rfl, rfl, rfl, ok1.reOne, (w1.reOne hb1).up (by omega) (by omega), by show (s1.fmt.set _ _).length = _; rw [List.length_set]; exact hl, fun j h1 h2 => ?_, ?_⟩
   ·have e : (s1.reOne i a c).fmt.getD j (-1) = s1.fmt.getD j (-1) := DK (by omega)
    rw [e]
    obtain ⟨g1, g2⟩ := hf j (by omega) h2
    refine ⟨g1, ?_⟩
    obtain ⟨r0, r1⟩ := fmt_rng ok1 (by omega) g1
    have : (s1.reOne i a c).na (s1.fmt.getD j (-1)) = s1.na (s1.fmt.getD j (-1)) := na_put r0 r1 (s1.na (s1.fmt.getD i (-1))) (s1.at (s1.fmt.getD i (-1))) a c
    rw [this]; exact g2
   ·rw [St.reGo_noA, St.reOne_noA, ← St.reOne_noA s1 i 0 0, ← St.reGo_noA, ← hg]
    rw [show s.fmt.length - i = (s.fmt.length - (i + 1)) + 1 by omega]
    rfl
  ·have : i = s.fmt.length := by simp at h; omega
   subst this
   rw [Nat.sub_self] at hg
   refine A8 ?_
   exact AZ (Ak ..) (q s1 hg ok1 w1)
 refine BO ?_
 refine AB ?_
 refine A4 rfl ?_
 refine AL ?_
 refine O_gtI ?_
 refine ⟨_, rfl, ?_⟩
 refine AQ (fun h => ?_) (fun h => ?_)
 ·obtain ⟨p, rfl⟩ : ∃ p, n = p + 1 := ⟨n - 1, by simp at h; omega⟩
  refine BO ?_
  refine AB ?_
  refine AO ?_
  refine AC ?_
  refine A4 rfl ?_
  refine Bf ?_
  refine AP ?_
  refine A4 rfl ?_
  refine AL ?_
  refine Hb ?_
  refine Ay (CD _) (by omega) (by omega) (fItem (i := p) (by omega) (by omega)) ?_
  refine AX ?_
  refine AL ?_
  refine B8 ?_
  refine FD ?_
  refine ⟨_, rfl, ?_⟩
  refine AQ (fun h2 => ?_) (fun h2 => ?_)
  ·refine Bi ?_
   refine Df ?_
   refine B7 ?_
   refine AH ?_
   refine AC ?_
   refine A4 rfl ?_
   refine Ai ?_
   refine Ag (Cd _) (Ba _) (G6 _) rfl ?_
   refine A5 ?_
   refine AO ?_
   refine AC ?_
   refine A4 rfl ?_
   refine Bf ?_
   refine AP ?_
   refine A4 rfl ?_
   refine AL ?_
   refine Hb ?_
   refine Ay (CD _) (by omega) (by omega) (fItem (i := p) (by omega) (by omega)) ?_
   refine A7 ?_
   refine has_spec ?_
   refine An ?_
   refine AQ (fun h3 => ?_) (fun h3 => ?_)
   ·refine A6 ?_
    refine HI rfl ?_
    refine AL ?_
    refine O_isub ?_
    refine AF ?_
    refine A8 ?_
    refine ⟨p, _, [(zs "at", V.int (p : Nat)), (zs "formatting", .ref B.fm), (zs "tree", .ref B.tr), (zs "builder", .ref B.bd)], _, _, by omega, rfl, Sub.cons (congrArg (fun x => some (V.int x)) (by omega)) (Sub.cons rfl (Sub.cons rfl (Sub.cons rfl .nil))), by omega, rfl, rfl, rfl, ?_⟩
    rw [← he]
    show _ = St.reAt s (p + 1)
    unfold St.reAt
    rw [if_pos (by rw [show (s.fmt.getD p (-1) != -1) = true from h2, show (!s.opn.contains (s.fmt.getD p (-1))) = true from h3]; rfl)]
    cases p <;> rfl
   ·refine cont ?_
    unfold St.reAt
    rw [if_neg (by rw [show (!s.opn.contains (s.fmt.getD p (-1))) = false from h3, Bool.and_false]; decide)]
  ·refine cont ?_
   unfold St.reAt
   rw [if_neg (by rw [show (s.fmt.getD p (-1) != -1) = false from h2, Bool.false_and]; decide)]
 ·have : n = 0 := by simp at h; omega
  subst this
  exact cont rfl
end
end Mine
namespace Mine
noncomputable def IQ : Expr → Option Str
 | .Constant (.str x) _ _ => some x
 | _ => none
theorem WA_strs {g : G} {k : Nat} {σ : Store} {env : Env} {pos : Pos} : ∀ {elts : List Expr} {xs : List Str} {Q : List V → Store → Prop}, elts.map IQ = xs.map some → Q (xs.map V.str) σ → WA g k σ env pos elts Q
 | [], [], _, _, q => A7 q
 | [], _ :: _, _, h, _ => by cases h
 | _ :: _, [], _, h, _ => by cases h
 | e :: es, x :: xs, Q, h, q => by
  simp only [List.map_cons, List.cons.injEq] at h
  obtain ⟨h1, h2⟩ := h
  unfold IQ at h1
  split at h1
  ·cases h1; exact A5 (A9 (WA_strs (Q := fun ds σ' => Q (.str x :: ds) σ') h2 q))
  ·cases h1
theorem Ac {g : G} {k : Nat} {σ : Store} {env : Env} {pos : Pos} {n} {elts : List Expr} {xs : List Str} {Q : V → Store → Prop} (h : elts.map IQ = xs.map some) (hz : Nat.ble xs.length 1000 = true) (q : Q (.tup (xs.map V.str)) σ) : WE g k σ env (.Tuple elts n pos) Q :=
 Ah (WA_strs h ⟨by rw [List.length_map]; exact sz_lit hz, q⟩)
noncomputable def St.setOpn (s : St) (o : List Int) : St := { s with opn := o }
noncomputable def St.setErr (s : St) (e : List (Str × Str)) : St := { s with errors := e }
noncomputable def St.setFs (s : St) (x : Bool) : St := { s with fs := x }
noncomputable def St.setMode (s : St) (x : Str) : St := { s with mode := x }
noncomputable def St.setWish (s : St) (x : Str) : St := { s with wish := x }
noncomputable def St.setSkip (s : St) (x : Bool) : St := { s with skip := x }
noncomputable def St.setAck (s : St) (x : Bool) : St := { s with ack := x }
noncomputable def St.setOrig (s : St) (x : Str) : St := { s with original := x }
noncomputable def St.setForm (s : St) (x : Int) : St := { s with form := x }
noncomputable def St.setQuirks (s : St) (x : Str) : St := { s with quirks := x }
theorem Ok.setFs {s : St} (ok : Ok s) {x : Bool} : Ok (s.setFs x) := ⟨ok.sp, ok.ki, ok.te, ok.at_, ok.aA, ok.pa, ok.ch, ok.cA, ok.pos, ok.opn, ok.fmt, ok.up, ok.con⟩
theorem Big.setFs {s : St} {b : Nat} (w : Big s b) {x : Bool} : Big (s.setFs x) b := ⟨w.n, w.opn, w.fmt, w.err, w.own, w.con, w.att, w.chi, w.small⟩
theorem Ok.setMode {s : St} (ok : Ok s) {x : Str} : Ok (s.setMode x) := ⟨ok.sp, ok.ki, ok.te, ok.at_, ok.aA, ok.pa, ok.ch, ok.cA, ok.pos, ok.opn, ok.fmt, ok.up, ok.con⟩
theorem Big.setMode {s : St} {b : Nat} (w : Big s b) {x : Str} : Big (s.setMode x) b := ⟨w.n, w.opn, w.fmt, w.err, w.own, w.con, w.att, w.chi, w.small⟩
theorem Ok.setWish {s : St} (ok : Ok s) {x : Str} : Ok (s.setWish x) := ⟨ok.sp, ok.ki, ok.te, ok.at_, ok.aA, ok.pa, ok.ch, ok.cA, ok.pos, ok.opn, ok.fmt, ok.up, ok.con⟩
theorem Big.setWish {s : St} {b : Nat} (w : Big s b) {x : Str} : Big (s.setWish x) b := ⟨w.n, w.opn, w.fmt, w.err, w.own, w.con, w.att, w.chi, w.small⟩
theorem Ok.setSkip {s : St} (ok : Ok s) {x : Bool} : Ok (s.setSkip x) := ⟨ok.sp, ok.ki, ok.te, ok.at_, ok.aA, ok.pa, ok.ch, ok.cA, ok.pos, ok.opn, ok.fmt, ok.up, ok.con⟩
theorem Big.setSkip {s : St} {b : Nat} (w : Big s b) {x : Bool} : Big (s.setSkip x) b := ⟨w.n, w.opn, w.fmt, w.err, w.own, w.con, w.att, w.chi, w.small⟩
theorem Ok.setAck {s : St} (ok : Ok s) {x : Bool} : Ok (s.setAck x) := ⟨ok.sp, ok.ki, ok.te, ok.at_, ok.aA, ok.pa, ok.ch, ok.cA, ok.pos, ok.opn, ok.fmt, ok.up, ok.con⟩
theorem Big.setAck {s : St} {b : Nat} (w : Big s b) {x : Bool} : Big (s.setAck x) b := ⟨w.n, w.opn, w.fmt, w.err, w.own, w.con, w.att, w.chi, w.small⟩
theorem Ok.setOrig {s : St} (ok : Ok s) {x : Str} : Ok (s.setOrig x) := ⟨ok.sp, ok.ki, ok.te, ok.at_, ok.aA, ok.pa, ok.ch, ok.cA, ok.pos, ok.opn, ok.fmt, ok.up, ok.con⟩
theorem Big.setOrig {s : St} {b : Nat} (w : Big s b) {x : Str} : Big (s.setOrig x) b := ⟨w.n, w.opn, w.fmt, w.err, w.own, w.con, w.att, w.chi, w.small⟩
theorem Ok.setForm {s : St} (ok : Ok s) {x : Int} : Ok (s.setForm x) := ⟨ok.sp, ok.ki, ok.te, ok.at_, ok.aA, ok.pa, ok.ch, ok.cA, ok.pos, ok.opn, ok.fmt, ok.up, ok.con⟩
theorem Big.setForm {s : St} {b : Nat} (w : Big s b) {x : Int} : Big (s.setForm x) b := ⟨w.n, w.opn, w.fmt, w.err, w.own, w.con, w.att, w.chi, w.small⟩
theorem Ok.setQuirks {s : St} (ok : Ok s) {x : Str} : Ok (s.setQuirks x) := ⟨ok.sp, ok.ki, ok.te, ok.at_, ok.aA, ok.pa, ok.ch, ok.cA, ok.pos, ok.opn, ok.fmt, ok.up, ok.con⟩
theorem Big.setQuirks {s : St} {b : Nat} (w : Big s b) {x : Str} : Big (s.setQuirks x) b := ⟨w.n, w.opn, w.fmt, w.err, w.own, w.con, w.att, w.chi, w.small⟩
noncomputable def St.err (s : St) (e : Str) : St := s.setErr (s.errors ++ [(e, s.mode)])
theorem Ok.erred {s : St} (ok : Ok s) {e : Str} : Ok (s.err e) := ⟨ok.sp, ok.ki, ok.te, ok.at_, ok.aA, ok.pa, ok.ch, ok.cA, ok.pos, ok.opn, ok.fmt, ok.up, ok.con⟩
theorem Big.erred {s : St} {b : Nat} (w : Big s b) (hb : b + 1 ≤ 1000000) {e : Str} : Big (s.err e) (b + 1) := by
 have up := w.up (Nat.le_succ b) hb
 exact ⟨up.n, up.opn, up.fmt, by show (s.errors ++ [_]).length ≤ _; rw [List.length_append]; exact Nat.succ_le_succ w.err, up.own, up.con, up.att, up.chi, hb⟩
theorem Ok.setOpn {s : St} (ok : Ok s) {o : List Int} (h : ∀ x ∈ o, x ∈ s.opn) : Ok (s.setOpn o) := ok.opn' h
theorem Big.setOpn {s : St} {b : Nat} (w : Big s b) {o : List Int} (h : o.length ≤ s.opn.length) : Big (s.setOpn o) b := w.opn' h
theorem mem_rr {o r : List Int} (h : ∀ x ∈ r, x ∈ o.reverse) : ∀ x ∈ r.reverse, x ∈ o := fun x hx => List.mem_reverse.mp (h x (List.mem_reverse.mp hx))
theorem len_rr {o r : List Int} (h : r.length ≤ o.reverse.length) : r.reverse.length ≤ o.length := by rw [List.length_reverse] at h ⊢; exact h
section
variable {g : G} {k : Nat} {B : BA} {s : St} {τ σ : Store} {Q : V → Store → Prop} {b : Nat}
theorem Ff {x : Str} {Q : Unit → Store → Prop} (q : Q () (AE B (s.setOrig x) ++ σ)) : O2 g k EqR (AE B s ++ σ) (fun ov v => setAttr ov (zs "original") v) (.ref B.bd) (.str x) Q := S_b_original q
theorem IR {x : Int} {Q : Unit → Store → Prop} (q : Q () (AE B (s.setForm x) ++ σ)) : O2 g k EqR (AE B s ++ σ) (fun ov v => setAttr ov (zs "form") v) (.ref B.bd) (.int x) Q := S_b_form q
theorem Aw {x : Bool} {Q : Unit → Store → Prop} (q : Q () (AE B (s.setFs x) ++ σ)) : O2 g k EqR (AE B s ++ σ) (fun ov v => setAttr ov (zs "is_frameset_ok") v) (.ref B.bd) (.bool x) Q := Ex q
theorem F1 {x : Str} {Q : Unit → Store → Prop} (q : Q () (AE B (s.setQuirks x) ++ σ)) : O2 g k EqR (AE B s ++ σ) (fun ov v => setAttr ov (zs "quirks") v) (.ref B.bd) (.str x) Q := S_b_quirks q
theorem IS {x : Str} {Q : Unit → Store → Prop} (q : Q () (AE B (s.setWish x) ++ σ)) : O2 g k EqR (AE B s ++ σ) (fun ov v => setAttr ov (zs "wish") v) (.ref B.bd) (.str x) Q := S_b_wish q
theorem Dv {x : Bool} {Q : Unit → Store → Prop} (q : Q () (AE B (s.setSkip x) ++ σ)) : O2 g k EqR (AE B s ++ σ) (fun ov v => setAttr ov (zs "is_skipping") v) (.ref B.bd) (.bool x) Q := Gu q
theorem Ee {x : Bool} {Q : Unit → Store → Prop} (q : Q () (AE B (s.setAck x) ++ σ)) : O2 g k EqR (AE B s ++ σ) (fun ov v => setAttr ov (zs "is_acknowledged") v) (.ref B.bd) (.bool x) Q := Ck q
theorem Cb {e : Str} (hb : s.errors.length ≤ 1000000) (q : Q .none (AE B (s.err e) ++ τ)) : Fn g (k + 1) 591 [.ref B.bd, .str e] (AE B s ++ τ) Q := error_spec hb q
theorem IT {e : Str} (q : Q .none (AE B (s.setMode e) ++ τ)) : Fn g (k + 1) 598 [.ref B.bd, .str e] (AE B s ++ τ) Q := to_spec q
theorem DL {but : Str} (ok : Ok s) (w : Big s b) (q : Q .none (AE B (s.setOpn (s.popI but s.opn.reverse).reverse) ++ τ)) : Fn g (k + 4) 177 [.ref B.st, .str but] (AE B s ++ τ) Q := GH ok w q
theorem F2 (ok : Ok s) (w : Big s b) (q : Q .none (AE B (s.setOpn (s.popI es s.opn.reverse).reverse) ++ τ)) : Fn g (k + 4) 177 [.ref B.st] (AE B s ++ τ) Q := Fc ok w q
theorem IU {s₀ : St} (hn : s.names = s₀.names) (hs : s.spaces = s₀.spaces) (ns : List Str) : ∀ r, s.popU ns r = s₀.popU ns r
 | [] => rfl
 | x :: r => by
  rw [St.popU_cons, St.popU_cons, IU hn hs ns r, show s.nmOf x = s₀.nmOf x by unfold St.nmOf St.sp St.na; rw [hn, hs]]
theorem Bb {ns : List Str} (s₀ : St) (r : List Int) (hr : s.opn = r.reverse) (hn : s.names = s₀.names) (hs : s.spaces = s₀.spaces) (ok : Ok s) (w : Big s b) (q : ∀ v, v.drops = true → Q v (AE B (s.setOpn (s₀.popU ns r).reverse) ++ τ)) : Fn g (k + 3) 140 [.ref B.st, .tup (ns.map V.str)] (AE B s ++ τ) Q :=
 IM ok w (by rw [IU hn hs, hr, List.reverse_reverse]; exact q)
theorem pop_top_spec (w : s.opn.length ≤ 1000000) (h : s.opn ≠ []) (q : ∀ v, v.drops = true → Q v (AE B (s.setOpn s.opn.dropLast) ++ τ)) : Fn g (k + 1) 77 [.ref B.st] (AE B s ++ τ) Q := pop_spec' (but := es) w h q
end
noncomputable def openE : Str := zs "open-elements"
noncomputable def BL : Str := zs "unexpected-start-tag"
noncomputable def pS : Str := zs "p"
noncomputable def buttonS : Str := zs "button"
noncomputable def St.nmR (s : St) : List Int → Str
 | [] => es
 | x :: _ => s.nmOf x
theorem St.nm_rev (s : St) (r : List Int) : (s.setOpn r.reverse).nm = s.nmR r := by
 cases r with
 | nil => rfl
 | cons x r => unfold St.nm St.setOpn; simp [St.nmR]; rfl
noncomputable def St.clO (s : St) (nm but : Str) (r : List Int) : List Int := s.popU [nm] (s.popI but r)
noncomputable def St.clE (s : St) (nm but : Str) (r : List Int) : List (Str × Str) := if s.nmR (s.popI but r) != nm then s.errors ++ [(openE, s.mode)] else s.errors
theorem clE_t {s : St} {nm but : Str} {r : List Int} (h : (s.nmR (s.popI but r) != nm) = true) : s.clE nm but r = s.errors ++ [(openE, s.mode)] := by unfold St.clE; rw [if_pos h]
theorem clE_f {s : St} {nm but : Str} {r : List Int} (h : (s.nmR (s.popI but r) != nm) = false) : s.clE nm but r = s.errors := by unfold St.clE; rw [if_neg (by rw [h]; decide)]
noncomputable def St.closeN (s : St) (nm but : Str) : St := (s.setOpn (s.clO nm but s.opn.reverse).reverse).setErr (s.clE nm but s.opn.reverse)
theorem IV (s : St) (but : Str) : ∀ (r : List Int) x, x ∈ s.popI but r → x ∈ r
 | [], x, h => h
 | y :: r, x, h => by
  rw [St.popI_cons] at h
  split at h
  ·exact .tail _ (IV s but r x h)
  ·exact h
theorem popU_mem (s : St) (ns : List Str) : ∀ (r : List Int) x, x ∈ s.popU ns r → x ∈ r
 | [], x, h => h
 | y :: r, x, h => by
  rw [St.popU_cons] at h
  split at h
  ·exact .tail _ h
  ·exact .tail _ (popU_mem s ns r x h)
theorem IW (s : St) (but : Str) : ∀ (r : List Int), (s.popI but r).length ≤ r.length
 | [] => Nat.le_refl _
 | y :: r => by
  rw [St.popI_cons]
  split
  ·exact Nat.le_succ_of_le (IW s but r)
  ·exact Nat.le_refl _
theorem popU_len (s : St) (ns : List Str) : ∀ (r : List Int), (s.popU ns r).length ≤ r.length
 | [] => Nat.le_refl _
 | y :: r => by
  rw [St.popU_cons]
  split
  ·exact Nat.le_succ _
  ·exact Nat.le_succ_of_le (popU_len s ns r)
theorem HO (s : St) (nm but : Str) (r : List Int) x (h : x ∈ s.clO nm but r) : x ∈ r := IV _ _ _ _ (popU_mem _ _ _ _ h)
theorem clO_len (s : St) (nm but : Str) (r : List Int) : (s.clO nm but r).length ≤ r.length := Nat.le_trans (popU_len _ _ _) (IW _ _ _)
theorem clE_len (s : St) (nm but : Str) (r : List Int) : (s.clE nm but r).length ≤ s.errors.length + 1 := by
 unfold St.clE
 split <;> simp
theorem Ok.oe {s : St} (ok : Ok s) {o : List Int} {e : List (Str × Str)} (h : ∀ x ∈ o, x ∈ s.opn) : Ok ((s.setOpn o).setErr e) :=
 ⟨ok.sp, ok.ki, ok.te, ok.at_, ok.aA, ok.pa, ok.ch, ok.cA, ok.pos, fun x hx => ok.opn x (h x hx), ok.fmt, ok.up, ok.con⟩
theorem Big.oe {s : St} {b : Nat} (w : Big s b) {o : List Int} {e : List (Str × Str)} (ho : o.length ≤ s.opn.length) (he : e.length ≤ s.errors.length + 1) (hb : b + 1 ≤ 1000000) : Big ((s.setOpn o).setErr e) (b + 1) := by
 have up := w.up (Nat.le_succ b) hb
 exact ⟨up.n, Nat.le_trans ho up.opn, up.fmt, Nat.le_trans he (Nat.succ_le_succ w.err), up.own, up.con, up.att, up.chi, hb⟩
theorem Ok.closeN {s : St} (ok : Ok s) {nm but : Str} : Ok (s.closeN nm but) := ok.oe fun x h => List.mem_reverse.mp (HO _ _ _ _ _ (List.mem_reverse.mp h))
theorem Big.closeN {s : St} {b : Nat} (w : Big s b) (hb : b + 1 ≤ 1000000) {nm but : Str} : Big (s.closeN nm but) (b + 1) :=
 w.oe (by rw [List.length_reverse]; exact Nat.le_trans (clO_len _ _ _ _) (by rw [List.length_reverse]; exact Nat.le_refl _)) (clE_len _ _ _ _) hb
section
variable {g : G} {k : Nat} {B : BA} {s : St} {τ σ : Store} {Q : V → Store → Prop} {b : Nat} {x : Int} {name : Str} {attrs : List (Str × Str)}
theorem popI_ok (ok : Ok s) (w : Big s b) {but : Str} : Ok (s.setOpn (s.popI but s.opn.reverse).reverse) ∧ Big (s.setOpn (s.popI but s.opn.reverse).reverse) b :=
 ⟨ok.setOpn (mem_rr (IV _ _ _)), w.setOpn (len_rr (IW _ _ _))⟩
theorem close_p_spec (ok : Ok s) (w : Big s b) (hb : b + 1 ≤ 1000000) (q : Q .none (AE B (s.closeN pS pS) ++ τ)) : Fn g (k + 5) 244 [.ref B.bd] (AE B s ++ τ) Q := by
 obtain ⟨ok1, w1⟩ := popI_ok ok w (but := pS)
 refine AN [(zs "builder", .ref B.bd)] (lk_close_p _) (cd_close_p _) (Fz (fun _ => by kernel_rfl) (by kernel_rfl)) (fun L => ?_) (by decide +kernel) (by kernel_rfl) (by kernel_rfl) (by kernel_rfl)
 conv in stB _ => whnf
 conv in stS _ => whnf
 refine A6 ?_
 refine AI ?_
 refine AJ (Cu _) (Cz _) ?_
 refine A5 ?_
 refine AC ?_
 refine A4 rfl ?_
 refine Ai ?_
 refine A5 ?_
 refine A9 ?_
 refine A7 ?_
 refine DL (but := pS) ok w ?_
 refine ⟨rfl, ?_⟩
 refine A6 ?_
 refine AY ?_
 refine AB ?_
 refine AH ?_
 refine AC ?_
 refine A4 rfl ?_
 refine Ai ?_
 refine BJ (Cd _) (Ba _) (BE _) rfl ?_
 refine Ct ok1 w1 ?_
 rw [St.nm_rev]
 refine A9 ?_
 refine Ej ?_
 refine ⟨_, rfl, ?_⟩
 refine AQ (fun h => ?_) (fun h => ?_)
 ·refine A6 ?_
  refine AI ?_
  refine AH ?_
  refine A4 rfl ?_
  refine Ag (Bv _) (Bh _) (BW _) rfl ?_
  refine A5 ?_
  refine A9 ?_
  refine A7 ?_
  refine Cb (Nat.le_trans w.err w.small) ?_
  refine ⟨rfl, ?_⟩
  refine A8 ?_
  refine A6 ?_
  refine AI ?_
  refine AH ?_
  refine AC ?_
  refine A4 rfl ?_
  refine Ai ?_
  refine Ag (Cd _) (Ba _) (B1 _) rfl ?_
  refine A5 ?_
  (refine Ac (xs := sL ["p"]) ?ha ?hb ?_; (case ha => kernel_rfl); (case hb => kernel_rfl))
  refine A7 ?_
  refine Bb (ns := [pS]) s (s.popI pS s.opn.reverse) rfl rfl rfl ok1.erred (w1.erred hb) fun v hv => ⟨hv, ?_⟩
  refine A8 ?_
  refine AZ (Ak ..) ?_
  unfold St.closeN at q
  rw [clE_t (show (s.nmR (s.popI pS s.opn.reverse) != pS) = true from h)] at q
  exact q
 ·refine A8 ?_
  refine A6 ?_
  refine AI ?_
  refine AH ?_
  refine AC ?_
  refine A4 rfl ?_
  refine Ai ?_
  refine Ag (Cd _) (Ba _) (B1 _) rfl ?_
  refine A5 ?_
  (refine Ac (xs := sL ["p"]) ?ha ?hb ?_; (case ha => kernel_rfl); (case hb => kernel_rfl))
  refine A7 ?_
  refine Bb (ns := [pS]) s (s.popI pS s.opn.reverse) rfl rfl rfl ok1 w1 fun v hv => ⟨hv, ?_⟩
  refine A8 ?_
  refine AZ (Ak ..) ?_
  unfold St.closeN at q
  rw [clE_f (show (s.nmR (s.popI pS s.opn.reverse) != pS) = false from h)] at q
  exact q
theorem GI {nm but : Str} (ok : Ok s) (w : Big s b) (hb : b + 1 ≤ 1000000) (q : Q .none (AE B (s.closeN nm but) ++ τ)) : Fn g (k + 5) 266 [.ref B.bd, .str nm, .str but] (AE B s ++ τ) Q := by
 obtain ⟨ok1, w1⟩ := popI_ok ok w (but := but)
 refine AN [(zs "but", .str but), (zs "name", .str nm), (zs "builder", .ref B.bd)] (Ht _) (I6 _) (bndD3 (mex := []) (ex := []) rfl (IJ _) rfl (fun _ _ _ => rfl) (fun _ _ _ => by kernel_rfl) (fun _ _ => .nil) (by kernel_rfl)) (fun L => ?_) (by decide +kernel) (by kernel_rfl) (by kernel_rfl) (by kernel_rfl)
 conv in stB _ => whnf
 conv in stS _ => whnf
 refine A6 ?_
 refine AI ?_
 refine AJ (Cu _) (Cz _) ?_
 refine A5 ?_
 refine AC ?_
 refine A4 rfl ?_
 refine Ai ?_
 refine A5 ?_
 refine A4 rfl ?_
 refine A7 ?_
 refine DL ok w ?_
 refine ⟨rfl, ?_⟩
 refine A6 ?_
 refine AY ?_
 refine AB ?_
 refine AH ?_
 refine AC ?_
 refine A4 rfl ?_
 refine Ai ?_
 refine BJ (Cd _) (Ba _) (BE _) rfl ?_
 refine Ct ok1 w1 ?_
 rw [St.nm_rev]
 refine A4 rfl ?_
 refine Ej ?_
 refine ⟨_, rfl, ?_⟩
 refine AQ (fun h => ?_) (fun h => ?_)
 ·refine A6 ?_
  refine AI ?_
  refine AH ?_
  refine A4 rfl ?_
  refine Ag (Bv _) (Bh _) (BW _) rfl ?_
  refine A5 ?_
  refine A9 ?_
  refine A7 ?_
  refine Cb (Nat.le_trans w.err w.small) ?_
  refine ⟨rfl, ?_⟩
  refine A8 ?_
  refine A6 ?_
  refine AI ?_
  refine AH ?_
  refine AC ?_
  refine A4 rfl ?_
  refine Ai ?_
  refine Ag (Cd _) (Ba _) (B1 _) rfl ?_
  refine A5 ?_
  refine Ah ?_
  refine A5 ?_
  refine A4 rfl ?_
  refine A7 ?_
  refine ⟨sz_lit rfl, ?_⟩
  refine A7 ?_
  refine Bb (ns := [nm]) s (s.popI but s.opn.reverse) rfl rfl rfl ok1.erred (w1.erred hb) fun v hv => ⟨hv, ?_⟩
  refine A8 ?_
  refine AZ (Ak ..) ?_
  unfold St.closeN at q
  rw [clE_t h] at q
  exact q
 ·refine A8 ?_
  refine A6 ?_
  refine AI ?_
  refine AH ?_
  refine AC ?_
  refine A4 rfl ?_
  refine Ai ?_
  refine Ag (Cd _) (Ba _) (B1 _) rfl ?_
  refine A5 ?_
  refine Ah ?_
  refine A5 ?_
  refine A4 rfl ?_
  refine A7 ?_
  refine ⟨sz_lit rfl, ?_⟩
  refine A7 ?_
  refine Bb (ns := [nm]) s (s.popI but s.opn.reverse) rfl rfl rfl ok1 w1 fun v hv => ⟨hv, ?_⟩
  refine A8 ?_
  refine AZ (Ak ..) ?_
  unfold St.closeN at q
  rw [clE_f h] at q
  exact q
noncomputable def St.pIn (s : St) : Bool := s.scope [pS] buttonS s.opn.reverse
noncomputable def St.leaveP (s : St) : St := (s.setOpn (if s.pIn then (s.clO pS pS s.opn.reverse).reverse else s.opn)).setErr (if s.pIn then s.clE pS pS s.opn.reverse else s.errors)
theorem St.leaveP_t {s : St} (h : s.pIn = true) : s.leaveP = s.closeN pS pS := by unfold St.leaveP; rw [if_pos h, if_pos h]; rfl
theorem St.leaveP_f {s : St} (h : s.pIn = false) : s.leaveP = s := by unfold St.leaveP; rw [h]; rfl
theorem Ok.leaveP {s : St} (ok : Ok s) : Ok s.leaveP := by
 cases h : s.pIn
 ·rw [St.leaveP_f h]; exact ok
 ·rw [St.leaveP_t h]; exact ok.closeN
theorem Big.leaveP {s : St} {b : Nat} (w : Big s b) (hb : b + 1 ≤ 1000000) : Big s.leaveP (b + 1) := by
 cases h : s.pIn
 ·rw [St.leaveP_f h]; exact w.up (by omega) hb
 ·rw [St.leaveP_t h]; exact w.closeN hb
theorem CJ (ok : Ok s) (w : Big s b) (hb : b + 1 ≤ 1000000) (q : Q .none (AE B s.leaveP ++ τ)) : Fn g (k + 6) 258 [.ref B.bd] (AE B s ++ τ) Q := by
 refine AN [(zs "builder", .ref B.bd)] (lk_leave_p _) (cd_leave_p _) (Fz (fun _ => by kernel_rfl) (by kernel_rfl)) (fun L => ?_) (by decide +kernel) (by kernel_rfl) (by kernel_rfl) (by kernel_rfl)
 conv in stB _ => whnf
 conv in stS _ => whnf
 refine A6 ?_
 refine AY ?_
 refine B7 ?_
 refine AJ (GQ _) (GV _) ?_
 refine A5 ?_
 refine AC ?_
 refine A4 rfl ?_
 refine Ai ?_
 refine A5 ?_
 (refine Ac (xs := sL ["p"]) ?ha ?hb ?_; (case ha => kernel_rfl); (case hb => kernel_rfl))
 refine A5 ?_
 refine A9 ?_
 refine A7 ?_
 refine in_scope_spec (ns := [pS]) ok w ?_
 refine An ?_
 refine AQ (fun h => ?_) (fun h => ?_)
 ·refine A6 ?_
  refine AI ?_
  refine AJ (gl_close_p _) (kp_close_p _) ?_
  refine A5 ?_
  refine A4 rfl ?_
  refine A7 ?_
  refine close_p_spec ok w hb ?_
  refine ⟨rfl, ?_⟩
  refine A8 ?_
  refine A8 ?_
  rw [St.leaveP_t h] at q
  exact AZ (Ak ..) q
 ·refine A8 ?_
  refine A8 ?_
  rw [St.leaveP_f h] at q
  exact AZ (Ak ..) q
noncomputable def mathL : List Str := sL ["mi", "mo", "mn", "ms", "mtext", "annotation-xml"]
noncomputable def svgL : List Str := sL ["foreignObject", "desc", "title"]
noncomputable def specialL : List Str := sL ["address", "applet", "area", "article", "aside", "base", "basefont", "bgsound", "blockquote", "body", "br", "button", "caption", "center", "col", "colgroup", "dd", "details", "dir", "div", "dl", "dt", "embed", "fieldset", "figcaption", "figure", "footer", "form", "frame", "frameset", "h1", "h2", "h3", "h4", "h5", "h6", "head", "header", "hgroup", "hr", "html", "iframe", "img", "input", "keygen", "li", "link", "listing", "main", "marquee", "menu", "meta", "nav", "noembed", "noframes", "noscript", "object", "ol", "p", "param", "plaintext", "pre", "script", "search", "section", "select", "source", "style", "summary", "table", "tbody", "td", "template", "textarea", "tfoot", "th", "thead", "title", "tr", "track", "ul", "wbr", "xmp"]
noncomputable def EW (sp na : Str) : Bool := if sp == zs "math" then mathL.contains na else if sp == zs "svg" then svgL.contains na else sp == AU && specialL.contains na
set_option maxHeartbeats 4000000 in
theorem HB {sp na : Str} (q : Q (.bool (EW sp na)) τ) : Fn g (k + 1) 28 [.str sp, .str na] τ Q := by
 unfold EW at q
 refine AN (R := []) [(zs "name", .str na), (zs "space", .str sp)] (lk_is_special _) (cd_is_special _) (DB (fun _ _ => by kernel_rfl) (by kernel_rfl)) (fun L => ?_) (by decide +kernel) (by kernel_rfl) (by kernel_rfl) (by kernel_rfl)
 conv in stB _ => whnf
 conv in stS _ => whnf
 refine A6 ?_
 refine AY ?_
 refine AB ?_
 refine A4 rfl ?_
 refine A9 ?_
 refine B9 ?_
 refine ⟨_, rfl, ?_⟩
 refine AQ (fun h => ?_) (fun h => ?_)
 ·rw [if_pos h] at q
  refine A6 ?_
  refine AG ?_
  refine AV ?_
  refine A4 rfl ?_
  (refine Ac (xs := sL ["mi", "mo", "mn", "ms", "mtext", "annotation-xml"]) ?ha ?hb ?_; (case ha => kernel_rfl); (case hb => kernel_rfl))
  refine BK ?_
  exact AR (Ak [] ..) q
 rw [if_neg (by rw [h]; decide)] at q
 refine A8 ?_
 refine A6 ?_
 refine AY ?_
 refine AB ?_
 refine A4 rfl ?_
 refine A9 ?_
 refine B9 ?_
 refine ⟨_, rfl, ?_⟩
 refine AQ (fun h => ?_) (fun h => ?_)
 ·rw [if_pos h] at q
  refine A6 ?_
  refine AG ?_
  refine AV ?_
  refine A4 rfl ?_
  (refine Ac (xs := sL ["foreignObject", "desc", "title"]) ?ha ?hb ?_; (case ha => kernel_rfl); (case hb => kernel_rfl))
  refine BK ?_
  exact AR (Ak [] ..) q
 rw [if_neg (by rw [h]; decide)] at q
 refine A8 ?_
 refine A6 ?_
 refine AG ?_
 refine E2 ?_
 refine AV ?_
 refine A4 rfl ?_
 refine A9 ?_
 refine B9 ?_
 refine An ?_
 refine AQ (fun h => ?_) (fun h => ?_)
 ·rw [show (sp == AU) = true from h, Bool.true_and] at q
  refine BS ?_
  refine AV ?_
  refine A4 rfl ?_
  (refine Ac (xs := sL ["address", "applet", "area", "article", "aside", "base", "basefont", "bgsound", "blockquote", "body", "br", "button", "caption", "center", "col", "colgroup", "dd", "details", "dir", "div", "dl", "dt", "embed", "fieldset", "figcaption", "figure", "footer", "form", "frame", "frameset", "h1", "h2", "h3", "h4", "h5", "h6", "head", "header", "hgroup", "hr", "html", "iframe", "img", "input", "keygen", "li", "link", "listing", "main", "marquee", "menu", "meta", "nav", "noembed", "noframes", "noscript", "object", "ol", "p", "param", "plaintext", "pre", "script", "search", "section", "select", "source", "style", "summary", "table", "tbody", "td", "template", "textarea", "tfoot", "th", "thead", "title", "tr", "track", "ul", "wbr", "xmp"]) ?ha ?hb ?_; (case ha => kernel_rfl); (case hb => kernel_rfl))
  refine BK ?_
  exact AR (Ak [] ..) q
 ·rw [show (sp == AU) = false from h, Bool.false_and] at q
  rw [h]
  exact AR (Ak [] ..) q
noncomputable def passL : List Str := sL ["address", "div", "p"]
noncomputable def St.openI (s : St) (ns : List Str) : List Int → Str
 | [] => es
 | x :: r => if s.sp x == AU && ns.contains (s.na x) then s.na x else if EW (s.sp x) (s.na x) && !(s.sp x == AU && passL.contains (s.na x)) then es else s.openI ns r
theorem St.openI_cons (s : St) (ns : List Str) (x : Int) (r : List Int) : s.openI ns (x :: r) = if s.sp x == AU && ns.contains (s.na x) then s.na x else if EW (s.sp x) (s.na x) && !(s.sp x == AU && passL.contains (s.na x)) then es else s.openI ns r := rfl
theorem revTake {o : List Int} {i : Nat} (h : i < o.length) : (o.take (i + 1)).reverse = o[i] :: (o.take i).reverse := by
 rw [List.take_succ, List.getElem?_eq_getElem h]; simp
theorem WE_det {env : Env} {e : Expr} {d : V} {Q : V → Store → Prop} (h : WE g k σ env e fun d' σ' => d' = d ∧ σ' = σ) (q : Q d σ) : WE g k σ env e Q :=
 W.mono h fun b σ' ⟨e1, e2⟩ => by subst e1; subst e2; exact q
theorem IX {ns : List Str} (ok : Ok s) (w : Big s b) (q : Q (.str (s.openI ns s.opn.reverse)) (AE B s ++ τ)) : Fn g (k + 2) 280 [.ref B.bd, .tup (ns.map V.str)] (AE B s ++ τ) Q := by
 have hz := Nat.le_trans w.opn w.small
 refine AN [(zs "names", .tup (ns.map V.str)), (zs "builder", .ref B.bd)] (lk_open_item _) (cd_open_item _) (DB (fun _ _ => by kernel_rfl) (by kernel_rfl)) (fun L => ?_) (by decide +kernel) (by kernel_rfl) (by kernel_rfl) (by kernel_rfl)
 conv in stB _ => whnf
 conv in stS _ => whnf
 refine A6 ?_
 refine AD ?_
 refine AC ?_
 refine A4 rfl ?_
 refine CE ?_
 refine AF ?_
 refine A6 ?_
 refine AD ?_
 refine AP ?_
 refine AH ?_
 refine AC ?_
 refine A4 rfl ?_
 refine Ai ?_
 refine BJ (Cd _) (Ba _) (DG _) rfl ?_
 refine many_spec hz ?_
 refine AL ?_
 refine Hb ?_
 refine AF ?_
 refine A6 ?_
 refine Cs (L := L) (fun n R m τ' => C5 (n ≤ s.opn.length) (m = [(zs "at", V.int ((n : Int) - 1)), (zs "tree", .ref B.tr), (zs "names", .tup (ns.map V.str)), (zs "builder", .ref B.bd)]) (R = AE B s) (τ' = τ) (s.openI ns (s.opn.take n).reverse = s.openI ns s.opn.reverse)) s.opn.length ⟨_, _, _, _, rfl, Sub.refl _, Nat.le_refl _, rfl, rfl, rfl, by rw [List.take_length]⟩ ?_
 rintro n R m τ' ⟨hn, rfl, rfl, rfl, he⟩
 refine AB ?_
 refine A4 rfl ?_
 refine AL ?_
 refine O_geI ?_
 refine ⟨_, rfl, ?_⟩
 refine AQ (fun h => ?_) (fun h => ?_)
 ·obtain ⟨p, rfl⟩ : ∃ p, n = p + 1 := ⟨n - 1, by simp at h; omega⟩
  have hp : p < s.opn.length := by omega
  obtain ⟨h0, h1⟩ := ok.opn _ (List.getElem_mem hp)
  rw [revTake hp, St.openI_cons] at he
  refine A6 ?_
  refine AD ?_
  refine AO ?_
  refine AC ?_
  refine AC ?_
  refine A4 rfl ?_
  refine Ai ?_
  refine B2 ?_
  refine A4 rfl ?_
  refine Ay (BQ _) (by omega) (by omega) (itemI hp (by omega)) ?_
  refine AF ?_
  refine A6 ?_
  refine AD ?_
  refine AO ?_
  refine AC ?_
  refine A4 rfl ?_
  refine Bk ?_
  refine A4 rfl ?_
  refine O_sp ok h0 h1 w ?_
  refine AF ?_
  refine A6 ?_
  refine AD ?_
  refine AO ?_
  refine AC ?_
  refine A4 rfl ?_
  refine Be ?_
  refine A4 rfl ?_
  refine O_na ok h0 h1 w ?_
  refine AF ?_
  refine A6 ?_
  refine AY ?_
  refine DS (c := s.sp s.opn[p] == AU && ns.contains (s.na s.opn[p])) ?_ (fun h => ?_) (fun h => ?_)
  ·refine BO ?_
   refine AB ?_
   refine A4 rfl ?_
   refine A9 ?_
   refine B9 ?_
   refine ⟨_, rfl, ?_⟩
   refine AQ (fun h => ?_) (fun h => ?_)
   ·refine Bi ?_
    refine AB ?_
    refine A4 rfl ?_
    refine A4 rfl ?_
    refine BK ?_
    refine ⟨_, rfl, ?_⟩
    exact ⟨by rw [h, Bool.true_and], rfl⟩
   ·exact ⟨by rw [h, Bool.false_and], rfl⟩
  ·rw [if_pos h] at he
   rw [← he] at q
   refine A6 ?_
   refine AG ?_
   refine A4 rfl ?_
   exact AR (Ak ..) q
  rw [if_neg (by rw [h]; decide)] at he
  refine A8 ?_
  refine A6 ?_
  refine AD ?_
  refine WE_det (d := .bool (s.sp s.opn[p] == AU && passL.contains (s.na s.opn[p]))) ?_ ?_
  ·refine E2 ?_
   refine AV ?_
   refine A4 rfl ?_
   refine A9 ?_
   refine B9 ?_
   refine An ?_
   refine AQ (fun h => ?_) (fun h => ?_)
   ·refine BS ?_
    refine AV ?_
    refine A4 rfl ?_
    (refine Ac (xs := sL ["address", "div", "p"]) ?ha ?hb ?_; (case ha => kernel_rfl); (case hb => kernel_rfl))
    refine BK ?_
    exact ⟨by rw [show (s.sp s.opn[p] == AU) = true from h, Bool.true_and]; rfl, rfl⟩
   ·exact ⟨by rw [show (s.sp s.opn[p] == AU) = false from h, Bool.false_and], rfl⟩
  refine AF ?_
  refine A6 ?_
  refine AY ?_
  refine BO ?_
  refine B7 ?_
  refine AJ (gl_is_special _) (kp_is_special _) ?_
  refine A5 ?_
  refine A4 rfl ?_
  refine A5 ?_
  refine A4 rfl ?_
  refine A7 ?_
  refine HB ?_
  refine An ?_
  refine AQ (fun h2 => ?_) (fun h2 => ?_)
  ·refine Bi ?_
   refine Df ?_
   refine B7 ?_
   refine A4 rfl ?_
   refine An ?_
   refine AQ (fun h3 => ?_) (fun h3 => ?_)
   ·refine A6 ?_
    refine AG ?_
    refine A9 ?_
    rw [if_pos (by rw [h2, show (!(s.sp s.opn[p] == AU && passL.contains (s.na s.opn[p]))) = true from h3]; rfl)] at he
    rw [← he] at q
    exact AR (Ak ..) q
   ·refine A8 ?_
    refine A6 ?_
    refine HI rfl ?_
    refine AL ?_
    refine O_isub ?_
    refine AF ?_
    refine A8 ?_
    rw [if_neg (by rw [show (!(s.sp s.opn[p] == AU && passL.contains (s.na s.opn[p]))) = false from h3, Bool.and_false]; decide)] at he
    refine ⟨p, _, [(zs "at", V.int ((p : Int) - 1)), (zs "tree", .ref B.tr), (zs "names", .tup (ns.map V.str)), (zs "builder", .ref B.bd)], _, _, by omega, rfl, Sub.cons (congrArg (fun x => some (V.int x)) (by omega)) (Sub.cons rfl (Sub.cons rfl (Sub.cons rfl .nil))), by omega, rfl, rfl, rfl, he⟩
  ·refine CH rfl ?_
   refine A8 ?_
   refine A6 ?_
   refine HI rfl ?_
   refine AL ?_
   refine O_isub ?_
   refine AF ?_
   refine A8 ?_
   rw [if_neg (by rw [h2, Bool.false_and]; decide)] at he
   refine ⟨p, _, [(zs "at", V.int ((p : Int) - 1)), (zs "tree", .ref B.tr), (zs "names", .tup (ns.map V.str)), (zs "builder", .ref B.bd)], _, _, by omega, rfl, Sub.cons (congrArg (fun x => some (V.int x)) (by omega)) (Sub.cons rfl (Sub.cons rfl (Sub.cons rfl .nil))), by omega, rfl, rfl, rfl, he⟩
 ·have : n = 0 := by simp at h; omega
  subst this
  refine A6 ?_
  refine AG ?_
  refine A9 ?_
  rw [← he] at q
  exact AR (Ak ..) q
end
end Mine
namespace Mine
noncomputable def hrS : Str := zs "hr"
noncomputable def EH : Str := zs "plaintext"
noncomputable def DM : Str := zs "quirks"
noncomputable def St.isHd (s : St) (name : Str) : Bool := headingL.contains name && headingL.contains s.nm
noncomputable def St.headed (s : St) (name : Str) : St := (s.setErr (if s.isHd name then s.errors ++ [(BL, s.mode)] else s.errors)).setOpn (if s.isHd name then s.opn.dropLast else s.opn)
theorem St.headed_t {s : St} {name : Str} (h : s.isHd name = true) : s.headed name = (s.err BL).setOpn s.opn.dropLast := by unfold St.headed; rw [if_pos h, if_pos h]; rfl
theorem St.headed_f {s : St} {name : Str} (h : s.isHd name = false) : s.headed name = s := by unfold St.headed; rw [h]; rfl
theorem Ok.headed {s : St} (ok : Ok s) {name : Str} : Ok (s.headed name) := by
 cases h : s.isHd name
 ·rw [St.headed_f h]; exact ok
 ·rw [St.headed_t h]; exact ok.erred.setOpn fun x hx => List.dropLast_subset _ hx
theorem Big.headed {s : St} {b : Nat} (w : Big s b) (hb : b + 1 ≤ 1000000) {name : Str} : Big (s.headed name) (b + 1) := by
 cases h : s.isHd name
 ·rw [St.headed_f h]; exact w.up (by omega) hb
 ·rw [St.headed_t h]; exact (w.erred hb).setOpn (by show s.opn.dropLast.length ≤ s.opn.length; rw [List.length_dropLast]; omega)
noncomputable def preL : List Str := sL ["pre", "listing"]
noncomputable def St.preTail (s : St) (name : Str) : St := if preL.contains name then (s.setSkip true).setFs false else if name == EH then s.setWish (zs "PLAINTEXT") else s
noncomputable def St.block (s : St) (name : Str) (attrs : List (Str × Str)) (a c : Addr) : St :=
 if name == hrS then ((s.leaveP).voided name attrs a c).setFs false else ((s.leaveP.headed name).tokd name attrs a c).preTail name
theorem St.block_t {s : St} {name : Str} {attrs : List (Str × Str)} {a c : Addr} (h : (name == hrS) = true) : s.block name attrs a c = ((s.leaveP).voided name attrs a c).setFs false := by unfold St.block; rw [if_pos h]
theorem St.block_f {s : St} {name : Str} {attrs : List (Str × Str)} {a c : Addr} (h : (name == hrS) = false) : s.block name attrs a c = ((s.leaveP.headed name).tokd name attrs a c).preTail name := by unfold St.block; rw [if_neg (by rw [h]; decide)]
noncomputable def St.itemN (s : St) (ns : List Str) : Str := s.openI ns s.opn.reverse
noncomputable def St.itemC (s : St) (ns : List Str) : St := if s.itemN ns != es then s.closeN (s.itemN ns) (s.itemN ns) else s
noncomputable def St.item (s : St) (ns : List Str) (name : Str) (attrs : List (Str × Str)) (a c : Addr) : St := (((s.setFs false).itemC ns).leaveP).tokd name attrs a c
theorem Ok.itemC {s : St} (ok : Ok s) {ns : List Str} : Ok (s.itemC ns) := by unfold St.itemC; split <;> first | exact ok.closeN | exact ok
theorem Big.itemC {s : St} {b : Nat} (w : Big s b) (hb : b + 1 ≤ 1000000) {ns : List Str} : Big (s.itemC ns) (b + 1) := by unfold St.itemC; split <;> first | exact w.closeN hb | exact w.up (by omega) hb
noncomputable def St.startForm (s : St) (name : Str) (attrs : List (Str × Str)) (a c : Addr) : St :=
 if s.form != -1 && !s.hasName templateS then s.err BL
 else if s.hasName templateS then s.leaveP.tokd name attrs a c else (s.leaveP.tokd name attrs a c).setForm s.names.length
noncomputable def St.bIn (s : St) : Bool := s.scope [buttonS] es s.opn.reverse
noncomputable def St.btnC (s : St) : St := (s.setErr (if s.bIn then s.errors ++ [(BL, s.mode)] else s.errors)).setOpn (if s.bIn then (s.clO buttonS es s.opn.reverse).reverse else s.opn)
theorem St.btnC_t {s : St} (h : s.bIn = true) : s.btnC = (s.err BL).setOpn (s.clO buttonS es s.opn.reverse).reverse := by unfold St.btnC; rw [if_pos h, if_pos h]; rfl
theorem St.btnC_f {s : St} (h : s.bIn = false) : s.btnC = s := by unfold St.btnC; rw [h]; rfl
theorem Ok.btnC {s : St} (ok : Ok s) : Ok s.btnC := by
 cases h : s.bIn
 ·rw [St.btnC_f h]; exact ok
 ·rw [St.btnC_t h]; exact ok.erred.setOpn (mem_rr (HO _ _ _ _))
theorem Big.btnC {s : St} {b : Nat} (w : Big s b) (hb : b + 1 ≤ 1000000) : Big s.btnC (b + 1) := by
 cases h : s.bIn
 ·rw [St.btnC_f h]; exact w.up (by omega) hb
 ·rw [St.btnC_t h]; exact (w.erred hb).setOpn (len_rr (clO_len _ _ _ _))
noncomputable def St.button (s : St) (name : Str) (attrs : List (Str × Str)) : St := (s.btnC.recon.tokd name attrs 0 0).setFs false
noncomputable def St.tableC (s : St) : St := if s.quirks != DM then s.leaveP else s
theorem Ok.tableC {s : St} (ok : Ok s) : Ok s.tableC := by unfold St.tableC; split <;> first | exact ok.leaveP | exact ok
theorem Big.tableC {s : St} {b : Nat} (w : Big s b) (hb : b + 1 ≤ 1000000) : Big s.tableC (b + 1) := by unfold St.tableC; split <;> first | exact w.leaveP hb | exact w.up (by omega) hb
noncomputable def St.table (s : St) (name : Str) (attrs : List (Str × Str)) (a c : Addr) : St := ((s.tableC.tokd name attrs a c).setFs false).setMode (zs "in table")
noncomputable def St.rawTail (s : St) : St := ((s.setWish (zs "RAWTEXT")).setOrig s.mode).setMode (zs "text")
noncomputable def St.xmp (s : St) (name : Str) (attrs : List (Str × Str)) : St := ((s.leaveP.recon.setFs false).tokd name attrs 0 0).rawTail
section
variable {g : G} {k : Nat} {B : BA} {s : St} {τ σ : Store} {Q : V → Store → Prop} {b : Nat} {x : Int} {name : Str} {attrs : List (Str × Str)}
theorem GJ (ok : Ok s) (w : Big s b) (ha : attrs.length ≤ b + 1) (hb : b + 6 ≤ 1000000) (hn : (name == templateS) = false)
  (q : ∀ a c, Q .none (AE B (s.block name attrs a c) ++ τ)) : Fn g (k + 7) 273 [.ref B.bd, Cf name attrs] (AE B s ++ τ) Q := by
 have ok1 := ok.leaveP
 have w1 := w.leaveP (by omega)
 refine AN [(zs "token", Cf name attrs), (zs "builder", .ref B.bd)] (Hu _) (I8 _) (DB (fun _ _ => by kernel_rfl) (by kernel_rfl)) (fun L => ?_) (by decide +kernel) (by kernel_rfl) (by kernel_rfl) (by kernel_rfl)
 conv in stB _ => whnf
 conv in stS _ => whnf
 refine A6 ?_
 refine AD ?_
 refine AO ?_
 refine A4 rfl ?_
 refine AL ?_
 refine CA 1 rfl rfl ?_
 refine AF ?_
 refine A6 ?_
 refine AI ?_
 refine AJ (Cv _) (D0 _) ?_
 refine A5 ?_
 refine A4 rfl ?_
 refine A7 ?_
 refine CJ ok w (by omega) ?_
 refine ⟨rfl, ?_⟩
 refine A6 ?_
 refine AY ?_
 refine AB ?_
 refine A4 rfl ?_
 refine A9 ?_
 refine B9 ?_
 refine ⟨_, rfl, ?_⟩
 refine AQ (fun h => ?_) (fun h => ?_)
 ·simp only [St.block_t (show (name == hrS) = true from h)] at q
  refine A6 ?_
  refine AI ?_
  refine AJ (HT _) (I4 _) ?_
  refine A5 ?_
  refine A4 rfl ?_
  refine A5 ?_
  refine A4 rfl ?_
  refine A7 ?_
  refine ins_void_spec ok1 w1 (by omega) (by omega) hn fun a c => ?_
  refine ⟨rfl, ?_⟩
  refine A6 ?_
  refine AK ?_
  refine As ?_
  refine A4 rfl ?_
  refine Aw ?_
  refine A6 ?_
  refine CP ?_
  exact AR (Ak ..) (q a c)
 simp only [St.block_f (show (name == hrS) = false from h)] at q
 have tail : ∀ a c, W g (k + 6) IsFl (Fm (AE B ((s.leaveP.headed name).tokd name attrs a c)) L [(zs "name", .str name), (zs "token", Cf name attrs), (zs "builder", .ref B.bd)] τ) (execs ((stB (tS 25)).drop 5) (envOf (zs "start_block") (stS (tS 25)) L 273 (.ref 272))) (BC Q) := by
  intro a c
  conv in stB _ => whnf
  conv in stS _ => whnf
  show WS g (k + 6) _ _ [_] _
  have q := q a c
  unfold St.preTail at q
  refine A6 ?_
  refine AY ?_
  refine AB ?_
  refine A4 rfl ?_
  (refine Ac (xs := sL ["pre", "listing"]) ?ha ?hb ?_; (case ha => kernel_rfl); (case hb => kernel_rfl))
  refine BK ?_
  refine ⟨_, rfl, ?_⟩
  refine AQ (fun h => ?_) (fun h => ?_)
  ·rw [if_pos (show preL.contains name = true from h)] at q
   refine A6 ?_
   refine AK ?_
   refine As ?_
   refine A4 rfl ?_
   refine Dv ?_
   refine A6 ?_
   refine AK ?_
   refine As ?_
   refine A4 rfl ?_
   refine Aw ?_
   refine A8 ?_
   refine A8 ?_
   exact AZ (Ak ..) q
  rw [if_neg (show ¬ preL.contains name = true by rw [show preL.contains name = false from h]; decide)] at q
  refine A6 ?_
  refine AY ?_
  refine AB ?_
  refine A4 rfl ?_
  refine A9 ?_
  refine B9 ?_
  refine ⟨_, rfl, ?_⟩
  refine AQ (fun h => ?_) (fun h => ?_)
  ·rw [if_pos (show (name == EH) = true from h)] at q
   refine A6 ?_
   refine AK ?_
   refine A9 ?_
   refine A4 rfl ?_
   refine IS ?_
   refine A8 ?_
   refine A8 ?_
   refine A8 ?_
   exact AZ (Ak ..) q
  ·rw [if_neg (show ¬ (name == EH) = true by rw [show (name == EH) = false from h]; decide)] at q
   refine A8 ?_
   refine A8 ?_
   refine A8 ?_
   exact AZ (Ak ..) q
 refine A8 ?_
 refine A6 ?_
 refine AY ?_
 refine DS (c := s.leaveP.isHd name) ?_ (fun h => ?_) (fun h => ?_)
 ·unfold St.isHd
  refine BO ?_
  refine B7 ?_
  refine AJ (Eh _) (Ek _) ?_
  refine A5 ?_
  refine A4 rfl ?_
  refine A7 ?_
  refine Du ?_
  refine An ?_
  refine AQ (fun h => ?_) (fun h => ?_)
  ·refine Bi ?_
   refine B7 ?_
   refine AJ (Eh _) (Ek _) ?_
   refine A5 ?_
   refine AH ?_
   refine AC ?_
   refine A4 rfl ?_
   refine Ai ?_
   refine BJ (Cd _) (Ba _) (BE _) rfl ?_
   refine Ct ok1 w1 ?_
   refine A7 ?_
   refine Du ?_
   refine An ?_
   exact ⟨by rw [h, Bool.true_and], rfl⟩
  ·exact ⟨by rw [h, Bool.false_and], rfl⟩
 ·have hne : s.leaveP.opn ≠ [] := by
   intro e
   have : s.leaveP.nm = es := by unfold St.nm; rw [e]; rfl
   unfold St.isHd at h
   rw [this, show headingL.contains es = false by decide, Bool.and_false] at h; cases h
  refine A6 ?_
  refine AI ?_
  refine AH ?_
  refine A4 rfl ?_
  refine Ag (Bv _) (Bh _) (BW _) rfl ?_
  refine A5 ?_
  refine A9 ?_
  refine A7 ?_
  refine Cb (Nat.le_trans w1.err w1.small) ?_
  refine ⟨rfl, ?_⟩
  refine A6 ?_
  refine AI ?_
  refine AH ?_
  refine AC ?_
  refine A4 rfl ?_
  refine Ai ?_
  refine BJ (Cd _) (Ba _) (CS _) rfl ?_
  refine pop_top_spec (Nat.le_trans w1.opn w1.small) hne fun v hv => ⟨hv, ?_⟩
  refine A8 ?_
  refine A6 ?_
  refine AI ?_
  refine AJ (B3 _) (B4 _) ?_
  refine A5 ?_
  refine A4 rfl ?_
  refine A5 ?_
  refine A4 rfl ?_
  refine A7 ?_
  have hh := ok1.headed (name := name)
  have wh := w1.headed (by omega) (name := name)
  rw [St.headed_t h] at tail hh wh
  refine BR hh wh (by omega) (by omega) hn fun a c => ?_
  exact ⟨rfl, tail a c⟩
 ·refine A8 ?_
  refine A6 ?_
  refine AI ?_
  refine AJ (B3 _) (B4 _) ?_
  refine A5 ?_
  refine A4 rfl ?_
  refine A5 ?_
  refine A4 rfl ?_
  refine A7 ?_
  rw [St.headed_f h] at tail
  refine BR ok1 w1 (by omega) (by omega) hn fun a c => ?_
  exact ⟨rfl, tail a c⟩
theorem Dw {ns : List Str} (ok : Ok s) (w : Big s b) (ha : attrs.length ≤ b + 1) (hb : b + 6 ≤ 1000000) (hn : (name == templateS) = false)
  (q : ∀ a c, Q .none (AE B (s.item ns name attrs a c) ++ τ)) : Fn g (k + 7) 287 [.ref B.bd, Cf name attrs, .tup (ns.map V.str)] (AE B s ++ τ) Q := by
 have ok1 := (ok.setFs (x := false)).itemC (ns := ns)
 have w1 := (w.setFs (x := false)).itemC (by omega) (ns := ns)
 refine AN [(zs "names", .tup (ns.map V.str)), (zs "token", Cf name attrs), (zs "builder", .ref B.bd)] (lk_start_item _) (cd_start_item _) (bnd3 (fun _ _ _ => by kernel_rfl) (by kernel_rfl)) (fun L => ?_) (by decide +kernel) (by kernel_rfl) (by kernel_rfl) (by kernel_rfl)
 conv in stB _ => whnf
 conv in stS _ => whnf
 refine A6 ?_
 refine AK ?_
 refine As ?_
 refine A4 rfl ?_
 refine Aw ?_
 refine A6 ?_
 refine AD ?_
 refine AJ (gl_open_item _) (kp_open_item _) ?_
 refine A5 ?_
 refine A4 rfl ?_
 refine A5 ?_
 refine A4 rfl ?_
 refine A7 ?_
 refine IX ok.setFs w.setFs ?_
 have tail : W g (k + 6) IsFl (Fm (AE B ((s.setFs false).itemC ns)) L [(zs "name", .str ((s.setFs false).itemN ns)), (zs "names", .tup (ns.map V.str)), (zs "token", Cf name attrs), (zs "builder", .ref B.bd)] τ) (execs ((stB (tS 27)).drop 3) (envOf (zs "start_item") (stS (tS 27)) L 287 (.ref 286))) (BC Q) := by
  conv in stB _ => whnf
  conv in stS _ => whnf
  show WS g (k + 6) _ _ [_, _] _
  refine A6 ?_
  refine AI ?_
  refine AJ (Cv _) (D0 _) ?_
  refine A5 ?_
  refine A4 rfl ?_
  refine A7 ?_
  refine CJ ok1 w1 (by omega) ?_
  refine ⟨rfl, ?_⟩
  refine A6 ?_
  refine AI ?_
  refine AJ (B3 _) (B4 _) ?_
  refine A5 ?_
  refine A4 rfl ?_
  refine A5 ?_
  refine A4 rfl ?_
  refine A7 ?_
  refine BR ok1.leaveP (w1.leaveP (by omega)) (by omega) (by omega) hn fun a c => ?_
  refine ⟨rfl, ?_⟩
  refine A8 ?_
  exact AZ (Ak ..) (q a c)
 refine AF ?_
 refine A6 ?_
 refine AY ?_
 refine AB ?_
 refine A4 rfl ?_
 refine A9 ?_
 refine Ej ?_
 refine ⟨_, rfl, ?_⟩
 refine AQ (fun h => ?_) (fun h => ?_)
 ·refine A6 ?_
  refine AI ?_
  refine AJ (HU _) (I7 _) ?_
  refine A5 ?_
  refine A4 rfl ?_
  refine A5 ?_
  refine A4 rfl ?_
  refine A5 ?_
  refine A4 rfl ?_
  refine A7 ?_
  refine GI ok.setFs w.setFs (by omega) ?_
  refine ⟨rfl, ?_⟩
  refine A8 ?_
  unfold St.itemC at tail
  rw [if_pos (show ((s.setFs false).itemN ns != es) = true from h)] at tail
  exact tail
 ·refine A8 ?_
  unfold St.itemC at tail
  rw [if_neg (show ¬ ((s.setFs false).itemN ns != es) = true by rw [show ((s.setFs false).itemN ns != es) = false from h]; decide)] at tail
  exact tail
end
end Mine
namespace Mine
theorem C2 (s : St) (x : Bool) : (s.setFs x).noA = s.noA.setFs x := rfl
theorem assoc_noA (s : St) (n : Int) : (s.assoc n).noA = (s.noA.assoc n).noA := by
 unfold St.assoc
 generalize hc : (s.form != -1 && (formedL.contains (s.na n) && ((s.na n == zs "img" || ((s.at n).find? (fun p => p.1 == zs "form")).isNone) && !s.hasName templateS))) = c
 have hc' : (s.noA.form != -1 && (formedL.contains (s.noA.na n) && ((s.noA.na n == zs "img" || ((s.noA.at n).find? (fun p => p.1 == zs "form")).isNone) && !s.noA.hasName templateS))) = c := hc
 rw [hc']
 cases c <;> rfl
theorem tokd_noA (s : St) (name : Str) (attrs : List (Str × Str)) (a c : Addr) : (s.tokd name attrs a c).noA = (s.noA.tokd name attrs 0 0).noA := by
 unfold St.tokd
 rw [assoc_noA, assoc_noA (s.noA.put name attrs 0 0)]; rfl
theorem recon_noA (s : St) : s.recon.noA = s.noA.recon.noA := by
 unfold St.recon
 have e : ∀ n, s.reAt n = s.noA.reAt n := fun n => by
  induction n with
  | zero => rfl
  | succ n ih => unfold St.reAt; rw [ih]; rfl
 rw [St.reGo_noA, e]; rfl
theorem F3 {s t : St} (h : s.noA = t.noA) (name : Str) (attrs : List (Str × Str)) (a c : Addr) : (s.tokd name attrs a c).noA = (t.tokd name attrs 0 0).noA := by
 rw [tokd_noA s, h, ← tokd_noA t]
theorem EX (s : St) (name : Str) (attrs : List (Str × Str)) (a c : Addr) : (s.tokd name attrs a c).noA = (s.tokd name attrs 0 0).noA := F3 rfl name attrs a c
theorem Ga (s : St) : s.rawTail.noA = s.noA.rawTail := rfl
noncomputable def St.bs (s : St) (name : Str) (attrs : List (Str × Str)) : St :=
 if name == zs "li" then s.item (sL ["li"]) name attrs 0 0
 else if (sL ["dd", "dt"]).contains name then s.item (sL ["dd", "dt"]) name attrs 0 0
 else if name == zs "form" then s.startForm name attrs 0 0
 else if name == buttonS then s.button name attrs
 else if name == zs "table" then s.table name attrs 0 0
 else if name == zs "xmp" then s.xmp name attrs
 else s.block name attrs 0 0
section
variable {g : G} {k : Nat} {B : BA} {s : St} {τ σ : Store} {Q : V → Store → Prop} {b : Nat} {x : Int} {name : Str} {attrs : List (Str × Str)}
theorem CK {α : Type} {c : Bool} {x y : α} (h : c = true) : (if c = true then x else y) = x := if_pos h
theorem CL {α : Type} {c : Bool} {x y : α} (h : c = false) : (if c = true then x else y) = y := if_neg (by rw [h]; decide)
theorem IY {s₀ : St} (hn : s.names = s₀.names) (hs : s.spaces = s₀.spaces) (but : Str) : ∀ r, s.popI but r = s₀.popI but r
 | [] => rfl
 | x :: r => by
  rw [St.popI_cons, St.popI_cons, IY hn hs but r, show s.nmOf x = s₀.nmOf x by unfold St.nmOf St.sp St.na; rw [hn, hs]]
theorem HC (ok : Ok s) (w : Big s b) (ha : attrs.length ≤ b + 1) (hb : b + 6 ≤ 1000000) (hn : (name == templateS) = false)
  (q : ∀ a c, Q .none (AE B (s.startForm name attrs a c) ++ τ)) : Fn g (k + 7) 294 [.ref B.bd, Cf name attrs] (AE B s ++ τ) Q := by
 refine AN [(zs "token", Cf name attrs), (zs "builder", .ref B.bd)] (lk_start_form _) (cd_start_form _) (DB (fun _ _ => by kernel_rfl) (by kernel_rfl)) (fun L => ?_) (by decide +kernel) (by kernel_rfl) (by kernel_rfl) (by kernel_rfl)
 conv in stB _ => whnf
 conv in stS _ => whnf
 unfold St.startForm at q
 refine A6 ?_
 refine AD ?_
 refine AH ?_
 refine AC ?_
 refine A4 rfl ?_
 refine Ai ?_
 refine Ag (Cd _) (Ba _) (CO _) rfl ?_
 refine A5 ?_
 refine A9 ?_
 refine A7 ?_
 refine Em ok w ?_
 refine AF ?_
 refine A6 ?_
 refine AY ?_
 refine DS (c := s.form != -1 && !s.hasName templateS) ?_ (fun h => ?_) (fun h => ?_)
 ·refine BO ?_
  refine AB ?_
  refine AC ?_
  refine A4 rfl ?_
  refine Cy ?_
  refine AX ?_
  refine AL ?_
  refine B8 ?_
  refine FD ?_
  refine ⟨_, rfl, ?_⟩
  refine AQ (fun h => ?_) (fun h => ?_)
  ·refine Bi ?_
   refine Df ?_
   refine B7 ?_
   refine A4 rfl ?_
   refine An ?_
   exact ⟨by rw [h, Bool.true_and]; rfl, rfl⟩
  ·exact ⟨by rw [show (s.form != -1) = false from h, Bool.false_and], rfl⟩
 ·have q := q 0 0
  rw [CK h] at q
  refine A6 ?_
  refine AI ?_
  refine AH ?_
  refine A4 rfl ?_
  refine Ag (Bv _) (Bh _) (BW _) rfl ?_
  refine A5 ?_
  refine A9 ?_
  refine A7 ?_
  refine Cb (Nat.le_trans w.err w.small) ?_
  refine ⟨rfl, ?_⟩
  refine A6 ?_
  refine CP ?_
  exact AR (Ak ..) q
 ·simp only [CL h] at q
  refine A8 ?_
  refine A6 ?_
  refine AI ?_
  refine AJ (Cv _) (D0 _) ?_
  refine A5 ?_
  refine A4 rfl ?_
  refine A7 ?_
  refine CJ ok w (by omega) ?_
  refine ⟨rfl, ?_⟩
  refine A6 ?_
  refine AD ?_
  refine AJ (B3 _) (B4 _) ?_
  refine A5 ?_
  refine A4 rfl ?_
  refine A5 ?_
  refine A4 rfl ?_
  refine A7 ?_
  refine BR ok.leaveP (w.leaveP (by omega)) (by omega) (by omega) hn fun a c => ?_
  have q := q a c
  refine AF ?_
  refine A6 ?_
  refine AY ?_
  refine Df ?_
  refine B7 ?_
  refine A4 rfl ?_
  refine An ?_
  refine AQ (fun h => ?_) (fun h => ?_)
  ·rw [CL (show s.hasName templateS = false by cases hh : s.hasName templateS with | false => rfl | true => rw [show s.hasName (zs "template") = true from hh] at h; cases h)] at q
   refine A6 ?_
   refine AK ?_
   refine A4 rfl ?_
   refine A4 rfl ?_
   refine IR ?_
   refine A8 ?_
   refine A8 ?_
   exact AZ (Ak ..) q
  ·rw [CK (show s.hasName templateS = true by cases hh : s.hasName templateS with | true => rfl | false => rw [show s.hasName (zs "template") = false from hh] at h; cases h)] at q
   refine A8 ?_
   refine A8 ?_
   exact AZ (Ak ..) q
theorem Fg (ok : Ok s) (w : Big s b) (ha : attrs.length ≤ b + 1) (hb : b + 2 * s.fmt.length + 8 ≤ 1000000) (hn : (name == templateS) = false) (ht : ∀ x ∈ s.fmt, x = -1 ∨ (s.na x == templateS) = false)
  (q : ∀ s', s'.noA = (s.button name attrs).noA → Ok s' → Big s' (b + 2 * s.fmt.length + 6) → Q .none (AE B s' ++ τ)) : Fn g (k + 7) 301 [.ref B.bd, Cf name attrs] (AE B s ++ τ) Q := by
 have ok1 := ok.btnC
 have w1 := w.btnC (by omega)
 have hf : s.btnC.fmt = s.fmt := rfl
 refine AN [(zs "token", Cf name attrs), (zs "builder", .ref B.bd)] (Gw _) (H3 _) (DB (fun _ _ => by kernel_rfl) (by kernel_rfl)) (fun L => ?_) (by decide +kernel) (by kernel_rfl) (by kernel_rfl) (by kernel_rfl)
 conv in stB _ => whnf
 conv in stS _ => whnf
 have tail : W g (k + 6) IsFl (Fm (AE B s.btnC) L [(zs "token", Cf name attrs), (zs "builder", .ref B.bd)] τ) (execs ((stB (tS 29)).drop 1) (envOf (zs "start_button") (stS (tS 29)) L 301 (.ref 300))) (BC Q) := by
  conv in stB _ => whnf
  conv in stS _ => whnf
  show WS g (k + 6) _ _ [_, _, _] _
  refine A6 ?_
  refine AI ?_
  refine AJ (E1 _) (EB _) ?_
  refine A5 ?_
  refine A4 rfl ?_
  refine A7 ?_
  refine IP ok1 w1 (by rw [hf]; omega) ht fun s1 e1 ok2 w2 => ?_
  rw [hf] at w2
  refine ⟨rfl, ?_⟩
  refine A6 ?_
  refine AI ?_
  refine AJ (B3 _) (B4 _) ?_
  refine A5 ?_
  refine A4 rfl ?_
  refine A5 ?_
  refine A4 rfl ?_
  refine A7 ?_
  refine BR ok2 w2 (by omega) (by omega) hn fun a c => ?_
  refine ⟨rfl, ?_⟩
  refine A6 ?_
  refine AK ?_
  refine As ?_
  refine A4 rfl ?_
  refine Aw ?_
  refine A8 ?_
  refine AZ (Ak ..) (q _ ?_ ok2.tokd.setFs ((w2.tokd (by omega) (by omega)).setFs.up (by omega) (by omega)))
  unfold St.button
  rw [C2, C2, F3 e1]
 refine A6 ?_
 refine AY ?_
 refine B7 ?_
 refine AJ (GQ _) (GV _) ?_
 refine A5 ?_
 refine AC ?_
 refine A4 rfl ?_
 refine Ai ?_
 refine A5 ?_
 (refine Ac (xs := sL ["button"]) ?ha ?hb ?_; (case ha => kernel_rfl); (case hb => kernel_rfl))
 refine A7 ?_
 refine IN (ns := [buttonS]) ok w ?_
 refine An ?_
 refine AQ (fun h => ?_) (fun h => ?_)
 ·rw [St.btnC_t h] at tail
  refine A6 ?_
  refine AI ?_
  refine AH ?_
  refine A4 rfl ?_
  refine Ag (Bv _) (Bh _) (BW _) rfl ?_
  refine A5 ?_
  refine A9 ?_
  refine A7 ?_
  refine Cb (Nat.le_trans w.err w.small) ?_
  refine ⟨rfl, ?_⟩
  refine A6 ?_
  refine AI ?_
  refine AJ (Cu _) (Cz _) ?_
  refine A5 ?_
  refine AC ?_
  refine A4 rfl ?_
  refine Ai ?_
  refine A7 ?_
  have ok3 : Ok (s.err BL) := ok.erred
  have w3 : Big (s.err BL) (b + 1) := w.erred (by omega)
  obtain ⟨ok4, w4⟩ := popI_ok ok3 w3 (but := es)
  refine F2 ok3 w3 ?_
  refine ⟨rfl, ?_⟩
  refine A6 ?_
  refine AI ?_
  refine AH ?_
  refine AC ?_
  refine A4 rfl ?_
  refine Ai ?_
  refine Ag (Cd _) (Ba _) (B1 _) rfl ?_
  refine A5 ?_
  (refine Ac (xs := sL ["button"]) ?ha ?hb ?_; (case ha => kernel_rfl); (case hb => kernel_rfl))
  refine A7 ?_
  refine Bb (ns := [buttonS]) s (s.popI es s.opn.reverse) (by show (St.popI (s.err BL) es s.opn.reverse).reverse = _; rw [IY (s := s.err BL) (s₀ := s) rfl rfl]) rfl rfl ok4 w4 fun v hv => ⟨hv, ?_⟩
  refine A8 ?_
  exact tail
 ·rw [St.btnC_f h] at tail
  refine A8 ?_
  exact tail
theorem GK (ok : Ok s) (w : Big s b) (ha : attrs.length ≤ b + 1) (hb : b + 6 ≤ 1000000) (hn : (name == templateS) = false)
  (q : ∀ a c, Q .none (AE B (s.table name attrs a c) ++ τ)) : Fn g (k + 7) 308 [.ref B.bd, Cf name attrs] (AE B s ++ τ) Q := by
 have ok1 := ok.tableC
 have w1 := w.tableC (by omega)
 refine AN [(zs "token", Cf name attrs), (zs "builder", .ref B.bd)] (Hv _) (IA _) (DB (fun _ _ => by kernel_rfl) (by kernel_rfl)) (fun L => ?_) (by decide +kernel) (by kernel_rfl) (by kernel_rfl) (by kernel_rfl)
 conv in stB _ => whnf
 conv in stS _ => whnf
 have tail : W g (k + 6) IsFl (Fm (AE B s.tableC) L [(zs "token", Cf name attrs), (zs "builder", .ref B.bd)] τ) (execs ((stB (tS 30)).drop 1) (envOf (zs "start_table") (stS (tS 30)) L 308 (.ref 307))) (BC Q) := by
  conv in stB _ => whnf
  conv in stS _ => whnf
  show WS g (k + 6) _ _ [_, _, _] _
  refine A6 ?_
  refine AI ?_
  refine AJ (B3 _) (B4 _) ?_
  refine A5 ?_
  refine A4 rfl ?_
  refine A5 ?_
  refine A4 rfl ?_
  refine A7 ?_
  refine BR ok1 w1 (by omega) (by omega) hn fun a c => ?_
  refine ⟨rfl, ?_⟩
  refine A6 ?_
  refine AK ?_
  refine As ?_
  refine A4 rfl ?_
  refine Aw ?_
  refine A6 ?_
  refine AI ?_
  refine AH ?_
  refine A4 rfl ?_
  refine Ag (Bv _) (Bh _) (DR _) rfl ?_
  refine A5 ?_
  refine A9 ?_
  refine A7 ?_
  refine IT ?_
  refine ⟨rfl, ?_⟩
  refine A8 ?_
  exact AZ (Ak ..) (q a c)
 unfold St.tableC at tail
 refine A6 ?_
 refine AY ?_
 refine AB ?_
 refine AC ?_
 refine A4 rfl ?_
 refine A_b_quirks ?_
 refine A9 ?_
 refine Ej ?_
 refine ⟨_, rfl, ?_⟩
 refine AQ (fun h => ?_) (fun h => ?_)
 ·rw [CK (show (s.quirks != DM) = true from h)] at tail
  refine A6 ?_
  refine AI ?_
  refine AJ (Cv _) (D0 _) ?_
  refine A5 ?_
  refine A4 rfl ?_
  refine A7 ?_
  refine CJ ok w (by omega) ?_
  refine ⟨rfl, ?_⟩
  refine A8 ?_
  exact tail
 ·rw [CL (show (s.quirks != DM) = false from h)] at tail
  refine A8 ?_
  exact tail
theorem IZ (ok : Ok s) (w : Big s b) (ha : attrs.length ≤ b + 1) (hb : b + 6 ≤ 1000000) (hn : (name == templateS) = false)
  (q : ∀ a c, Q .none (AE B (s.tokd name attrs a c).rawTail ++ τ)) : Fn g (k + 6) 251 [.ref B.bd, Cf name attrs, .str (zs "RAWTEXT")] (AE B s ++ τ) Q := by
 refine AN [(zs "state", .str (zs "RAWTEXT")), (zs "token", Cf name attrs), (zs "builder", .ref B.bd)] (lk_start_raw _) (cd_start_raw _) (bnd3 (fun _ _ _ => by kernel_rfl) (by kernel_rfl)) (fun L => ?_) (by decide +kernel) (by kernel_rfl) (by kernel_rfl) (by kernel_rfl)
 conv in stB _ => whnf
 conv in stS _ => whnf
 refine A6 ?_
 refine AI ?_
 refine AJ (B3 _) (B4 _) ?_
 refine A5 ?_
 refine A4 rfl ?_
 refine A5 ?_
 refine A4 rfl ?_
 refine A7 ?_
 refine BR ok w ha (by omega) hn fun a c => ?_
 refine ⟨rfl, ?_⟩
 refine A6 ?_
 refine AK ?_
 refine A4 rfl ?_
 refine A4 rfl ?_
 refine IS ?_
 refine A6 ?_
 refine AK ?_
 refine AC ?_
 refine A4 rfl ?_
 refine Hk ?_
 refine A4 rfl ?_
 refine Ff ?_
 refine A6 ?_
 refine AI ?_
 refine AH ?_
 refine A4 rfl ?_
 refine Ag (Bv _) (Bh _) (DR _) rfl ?_
 refine A5 ?_
 refine A9 ?_
 refine A7 ?_
 refine IT ?_
 refine ⟨rfl, ?_⟩
 refine A8 ?_
 exact AZ (Ak ..) (q a c)
theorem Ia (ok : Ok s) (w : Big s b) (ha : attrs.length ≤ b + 1) (hb : b + 2 * s.fmt.length + 8 ≤ 1000000) (hn : (name == templateS) = false) (ht : ∀ x ∈ s.fmt, x = -1 ∨ (s.na x == templateS) = false)
  (q : ∀ s', s'.noA = (s.xmp name attrs).noA → Ok s' → Big s' (b + 2 * s.fmt.length + 6) → Q .none (AE B s' ++ τ)) : Fn g (k + 7) 315 [.ref B.bd, Cf name attrs] (AE B s ++ τ) Q := by
 have ok1 := ok.leaveP
 have w1 := w.leaveP (by omega)
 have hf : s.leaveP.fmt = s.fmt := rfl
 refine AN [(zs "token", Cf name attrs), (zs "builder", .ref B.bd)] (lk_start_xmp _) (cd_start_xmp _) (DB (fun _ _ => by kernel_rfl) (by kernel_rfl)) (fun L => ?_) (by decide +kernel) (by kernel_rfl) (by kernel_rfl) (by kernel_rfl)
 conv in stB _ => whnf
 conv in stS _ => whnf
 refine A6 ?_
 refine AI ?_
 refine AJ (Cv _) (D0 _) ?_
 refine A5 ?_
 refine A4 rfl ?_
 refine A7 ?_
 refine CJ ok w (by omega) ?_
 refine ⟨rfl, ?_⟩
 refine A6 ?_
 refine AI ?_
 refine AJ (E1 _) (EB _) ?_
 refine A5 ?_
 refine A4 rfl ?_
 refine A7 ?_
 refine IP ok1 w1 (by rw [hf]; omega) ht fun s1 e1 ok2 w2 => ?_
 rw [hf] at w2
 refine ⟨rfl, ?_⟩
 refine A6 ?_
 refine AK ?_
 refine As ?_
 refine A4 rfl ?_
 refine Aw ?_
 refine A6 ?_
 refine AI ?_
 refine AJ (gl_start_raw _) (kp_start_raw _) ?_
 refine A5 ?_
 refine A4 rfl ?_
 refine A5 ?_
 refine A4 rfl ?_
 refine A5 ?_
 refine A9 ?_
 refine A7 ?_
 refine IZ ok2.setFs w2.setFs (by omega) (by omega) hn fun a c => ?_
 refine ⟨rfl, ?_⟩
 refine A8 ?_
 refine AZ (Ak ..) (q _ ?_ ok2.setFs.tokd.setWish.setOrig.setMode ((w2.setFs.tokd (by omega) (by omega)).setWish.setOrig.setMode.up (by omega) (by omega)))
 unfold St.xmp
 rw [Ga, Ga, F3 (t := s.leaveP.recon.setFs false) (by rw [C2, C2, e1])]
theorem Gb (s : St) (name : Str) : (s.preTail name).noA = s.noA.preTail name := by
 unfold St.preTail; split <;> first | rfl | (split <;> rfl)
theorem block_noA (s : St) (a c : Addr) : (s.block name attrs a c).noA = (s.block name attrs 0 0).noA := by
 cases h : name == hrS
 ·rw [St.block_f h, St.block_f h, Gb, Gb, EX]
 ·rw [St.block_t h, St.block_t h, C2, C2]
  have e : ∀ (t : St) a c, (t.voided name attrs a c).noA = ((t.tokd name attrs a c).noA.setOpn t.opn).setAck true := fun _ _ _ => rfl
  rw [e, e, EX]
theorem item_noA (s : St) (ns : List Str) (a c : Addr) : (s.item ns name attrs a c).noA = (s.item ns name attrs 0 0).noA := by
 unfold St.item; rw [EX]
theorem Gc (s : St) (x : Int) : (s.setForm x).noA = s.noA.setForm x := rfl
theorem startForm_noA (s : St) (a c : Addr) : (s.startForm name attrs a c).noA = (s.startForm name attrs 0 0).noA := by
 unfold St.startForm
 split
 ·rfl
 ·split
  ·rw [EX]
  ·rw [Gc, Gc, EX]
theorem Gd (s : St) (x : Str) : (s.setMode x).noA = s.noA.setMode x := rfl
theorem table_noA (s : St) (a c : Addr) : (s.table name attrs a c).noA = (s.table name attrs 0 0).noA := by
 unfold St.table; rw [Gd, Gd, C2, C2, EX]
theorem Ok.preTail (ok : Ok s) : Ok (s.preTail name) := by
 unfold St.preTail; split <;> first | exact ok.setSkip.setFs | (split <;> first | exact ok.setWish | exact ok)
theorem Big.preTail (w : Big s b) : Big (s.preTail name) b := by
 unfold St.preTail; split <;> first | exact w.setSkip.setFs | (split <;> first | exact w.setWish | exact w)
theorem Ok.block (ok : Ok s) {a c : Addr} : Ok (s.block name attrs a c) := by
 cases h : name == hrS
 ·rw [St.block_f h]; exact ok.leaveP.headed.tokd.preTail
 ·rw [St.block_t h]
  have t := ok.leaveP.tokd (name := name) (attrs := attrs) (a := a) (c := c)
  have : Ok ((s.leaveP.tokd name attrs a c).setOpn s.leaveP.opn) := t.setOpn fun x hx => by rw [EG]; exact List.mem_append_left _ hx
  exact (this.setAck (x := true)).setFs
theorem Big.block (w : Big s b) (hb : b + 6 ≤ 1000000) (ha : attrs.length ≤ b + 1) {a c : Addr} : Big (s.block name attrs a c) (b + 6) := by
 cases h : name == hrS
 ·rw [St.block_f h]; exact (((w.leaveP (by omega)).headed (by omega)).tokd (by omega) (by omega)).preTail.up (by omega) (by omega)
 ·rw [St.block_t h]
  have t := (w.leaveP (by omega)).tokd (by omega) (by omega) (name := name) (attrs := attrs) (a := a) (c := c)
  have : Big ((s.leaveP.tokd name attrs a c).setOpn s.leaveP.opn) (b + 1 + 3) := t.setOpn (by rw [EG]; simp)
  exact ((this.setAck (x := true)).setFs).up (by omega) (by omega)
theorem GL (ok : Ok s) (w : Big s b) (ha : attrs.length ≤ b + 1) (hb : b + 2 * s.fmt.length + 8 ≤ 1000000) (hn : (name == templateS) = false) (ht : ∀ x ∈ s.fmt, x = -1 ∨ (s.na x == templateS) = false)
  (q : ∀ s', s'.noA = (s.bs name attrs).noA → Ok s' → Big s' (b + 2 * s.fmt.length + 6) → Q .none (AE B s' ++ τ)) : Fn g (k + 8) 322 [.ref B.bd, Cf name attrs] (AE B s ++ τ) Q := by
 have q' : ∀ {s'}, s'.noA = (s.bs name attrs).noA → Ok s' → Big s' (b + 6) → Q .none (AE B s' ++ τ) := fun e o w => q _ e o (w.up (by omega) (by omega))
 refine AN [(zs "token", Cf name attrs), (zs "builder", .ref B.bd)] (Hw _) (IC _) (DB (fun _ _ => by kernel_rfl) (by kernel_rfl)) (fun L => ?_) (by decide +kernel) (by kernel_rfl) (by kernel_rfl) (by kernel_rfl)
 conv in stB _ => whnf
 conv in stS _ => whnf
 unfold St.bs at q q'
 refine A6 ?_
 refine AD ?_
 refine AO ?_
 refine A4 rfl ?_
 refine AL ?_
 refine CA 1 rfl rfl ?_
 refine AF ?_
 refine A6 ?_
 refine AY ?_
 refine AB ?_
 refine A4 rfl ?_
 refine A9 ?_
 refine B9 ?_
 refine ⟨_, rfl, ?_⟩
 refine AQ (fun h => ?_) (fun h => ?_)
 ·rw [CK h] at q'
  refine A6 ?_
  refine AI ?_
  refine AJ (Ei _) (El _) ?_
  refine A5 ?_
  refine A4 rfl ?_
  refine A5 ?_
  refine A4 rfl ?_
  refine A5 ?_
  (refine Ac (xs := sL ["li"]) ?ha ?hb ?_; (case ha => kernel_rfl); (case hb => kernel_rfl))
  refine A7 ?_
  refine Dw (ns := sL ["li"]) ok w ha (by omega) hn fun a c => ?_
  refine ⟨rfl, ?_⟩
  refine A8 ?_
  refine A8 ?_
  exact AZ (Ak ..) (q' (item_noA _ _ _ _) (((ok.setFs.itemC).leaveP).tokd) (((((w.setFs).itemC (by omega)).leaveP (by omega)).tokd (by omega) (by omega)).up (by omega) (by omega)))
 rw [CL h] at q q'
 refine A6 ?_
 refine AY ?_
 refine AB ?_
 refine A4 rfl ?_
 (refine Ac (xs := sL ["dd", "dt"]) ?ha ?hb ?_; (case ha => kernel_rfl); (case hb => kernel_rfl))
 refine BK ?_
 refine ⟨_, rfl, ?_⟩
 refine AQ (fun h => ?_) (fun h => ?_)
 ·rw [CK h] at q'
  refine A6 ?_
  refine AI ?_
  refine AJ (Ei _) (El _) ?_
  refine A5 ?_
  refine A4 rfl ?_
  refine A5 ?_
  refine A4 rfl ?_
  refine A5 ?_
  (refine Ac (xs := sL ["dd", "dt"]) ?ha ?hb ?_; (case ha => kernel_rfl); (case hb => kernel_rfl))
  refine A7 ?_
  refine Dw (ns := sL ["dd", "dt"]) ok w ha (by omega) hn fun a c => ?_
  refine ⟨rfl, ?_⟩
  refine A8 ?_
  refine A8 ?_
  refine A8 ?_
  exact AZ (Ak ..) (q' (item_noA _ _ _ _) (((ok.setFs.itemC).leaveP).tokd) (((((w.setFs).itemC (by omega)).leaveP (by omega)).tokd (by omega) (by omega)).up (by omega) (by omega)))
 rw [CL h] at q q'
 refine A6 ?_
 refine AY ?_
 refine AB ?_
 refine A4 rfl ?_
 refine A9 ?_
 refine B9 ?_
 refine ⟨_, rfl, ?_⟩
 refine AQ (fun h => ?_) (fun h => ?_)
 ·rw [CK h] at q'
  refine A6 ?_
  refine AI ?_
  refine AJ (gl_start_form _) (kp_start_form _) ?_
  refine A5 ?_
  refine A4 rfl ?_
  refine A5 ?_
  refine A4 rfl ?_
  refine A7 ?_
  refine HC ok w ha (by omega) hn fun a c => ?_
  refine ⟨rfl, ?_⟩
  refine A8 ?_
  refine A8 ?_
  refine A8 ?_
  refine A8 ?_
  refine AZ (Ak ..) (q' (startForm_noA _ _ _) ?_ ?_)
  ·unfold St.startForm; split <;> first | exact ok.erred | (split <;> first | exact ok.leaveP.tokd | exact ok.leaveP.tokd.setForm)
  ·unfold St.startForm; split <;> first | exact (w.erred (by omega)).up (by omega) (by omega) | (split <;> first | exact ((w.leaveP (by omega)).tokd (by omega) (by omega)).up (by omega) (by omega) | exact (((w.leaveP (by omega)).tokd (by omega) (by omega)).setForm).up (by omega) (by omega))
 rw [CL h] at q q'
 refine A6 ?_
 refine AY ?_
 refine AB ?_
 refine A4 rfl ?_
 refine A9 ?_
 refine B9 ?_
 refine ⟨_, rfl, ?_⟩
 refine AQ (fun h => ?_) (fun h => ?_)
 ·rw [CK (show (name == buttonS) = true from h)] at q
  refine A6 ?_
  refine AI ?_
  refine AJ (Gm _) (H4 _) ?_
  refine A5 ?_
  refine A4 rfl ?_
  refine A5 ?_
  refine A4 rfl ?_
  refine A7 ?_
  refine Fg ok w ha hb hn ht fun s' e o w => ?_
  refine ⟨rfl, ?_⟩
  refine A8 ?_
  refine A8 ?_
  refine A8 ?_
  refine A8 ?_
  refine A8 ?_
  exact AZ (Ak ..) (q s' e o w)
 rw [CL (show (name == buttonS) = false from h)] at q q'
 refine A6 ?_
 refine AY ?_
 refine AB ?_
 refine A4 rfl ?_
 refine A9 ?_
 refine B9 ?_
 refine ⟨_, rfl, ?_⟩
 refine AQ (fun h => ?_) (fun h => ?_)
 ·rw [CK h] at q'
  refine A6 ?_
  refine AI ?_
  refine AJ (HW _) (IB _) ?_
  refine A5 ?_
  refine A4 rfl ?_
  refine A5 ?_
  refine A4 rfl ?_
  refine A7 ?_
  refine GK ok w ha (by omega) hn fun a c => ?_
  refine ⟨rfl, ?_⟩
  refine A8 ?_
  refine A8 ?_
  refine A8 ?_
  refine A8 ?_
  refine A8 ?_
  refine A8 ?_
  exact AZ (Ak ..) (q' (table_noA _ _ _) (ok.tableC.tokd.setFs.setMode) (((w.tableC (by omega)).tokd (by omega) (by omega)).setFs.setMode.up (by omega) (by omega)))
 rw [CL h] at q q'
 refine A6 ?_
 refine AY ?_
 refine AB ?_
 refine A4 rfl ?_
 refine A9 ?_
 refine B9 ?_
 refine ⟨_, rfl, ?_⟩
 refine AQ (fun h => ?_) (fun h => ?_)
 ·rw [CK h] at q
  refine A6 ?_
  refine AI ?_
  refine AJ (gl_start_xmp _) (kp_start_xmp _) ?_
  refine A5 ?_
  refine A4 rfl ?_
  refine A5 ?_
  refine A4 rfl ?_
  refine A7 ?_
  refine Ia ok w ha hb hn ht fun s' e o w => ?_
  refine ⟨rfl, ?_⟩
  refine A8 ?_
  refine A8 ?_
  refine A8 ?_
  refine A8 ?_
  refine A8 ?_
  refine A8 ?_
  refine A8 ?_
  exact AZ (Ak ..) (q s' e o w)
 rw [CL h] at q'
 refine A6 ?_
 refine AI ?_
 refine AJ (HV _) (I9 _) ?_
 refine A5 ?_
 refine A4 rfl ?_
 refine A5 ?_
 refine A4 rfl ?_
 refine A7 ?_
 refine GJ ok w ha (by omega) hn fun a c => ?_
 refine ⟨rfl, ?_⟩
 refine A8 ?_
 refine A8 ?_
 refine A8 ?_
 refine A8 ?_
 refine A8 ?_
 refine A8 ?_
 refine A8 ?_
 exact AZ (Ak ..) (q' (block_noA _ _ _) ok.block (w.block (by omega) ha))
end
end Mine
namespace Mine
section
variable {g : G} {k : Nat} {σ : Store} {env : Env} {Q : V → Store → Prop}
noncomputable def Selfy {it : Addr} (I : It g it) : Prop := ∀ (i : Nat) (A : Around) (σ : Store) (s : Shared) (E : Value → Shared → Prop) (P : Value → Shared → Prop), SGd g (I.own i ++ σ) (Hp s) → P (.ref it) s → wpAny (model g.prog g.w) A (pyIter (.ref it)) P E s
theorem Ib (it l : Addr) (ds : List V) : Selfy (itL g it l ds) := fun i A σ s E P S p => by
 obtain ⟨o, ho, ⟨hc, hd⟩, _⟩ := S.cells _ (.head _)
 exact wpAny_pyIter_listiter ⟨o, ho, hc, hd⟩ p
theorem itR_self (it : Addr) (a c : Int) (n : Nat) : Selfy (itR g it a c n) := fun i A σ s E P S p => by
 obtain ⟨o, ho, rfl, _⟩ := S.cells _ (.head _)
 exact wpAny_pyIter_rangeiter ho p
noncomputable abbrev ifsLoop (ifs : List Expr) (cenv : Env) : Sem Bool := forIn ifs true fun c r => if r = true then do let ok ← isTrue c cenv (eval c cenv); pure (ForInStep.yield ok) else pure (ForInStep.yield r)
noncomputable def Cg (g : G) (k : Nat) (σ₁ : Store) (env : Env) (elt : Expr) (x : Str) (ifs : List Expr) (scope : Scope) (cl : List (Str × Addr)) (d : V) (Q : V → Store → Prop) : Prop :=
 ∃ R L m τ, σ₁ = Fm R L m τ ∧ ∃ Inv : ∀ it, It g it → Nat → List V → Store → Prop, IterO g k σ₁ d (fun it I => Inv it I 0 [] [] ∧ Selfy I) ∧
  (∀ it I i ds X, Inv it I i ds X → i ≤ It.n (g := g) (it := it) I ∧ ds.length ≤ sizeLine ∧ ∀ C m' D, I.src (Fm σ₁ C m' ((D, .list ds) :: X))) ∧
  (∀ it I i ds X C D, i < It.n (g := g) (it := it) I → Inv it I i ds X →
   W g k EqR (Fm σ₁ C [(x, I.item i)] ((D, .list ds) :: (I.own (i + 1) ++ X))) (ifsLoop ifs (compEnvC scope cl C env)) fun b σ' => if b = true then
    WE g k σ' (compEnvC scope cl C env) elt (fun d' σ'' => ∃ Y m', σ'' = Fm σ₁ C m' (Y ++ (D, .list ds) :: (I.own (i + 1) ++ X)) ∧ Inv it I (i + 1) (ds ++ [d']) (Y ++ X))
    else ∃ m', σ' = Fm σ₁ C m' ((D, .list ds) :: (I.own (i + 1) ++ X)) ∧ Inv it I (i + 1) ds X) ∧
  (∀ it I ds X D, Inv it I (It.n (g := g) (it := it) I) ds X → Q (.ref D) (Fm R L m ((D, .list ds) :: (X ++ τ))))
theorem Ic (O σ₁ : Store) (p a : Addr × Cell) (X : Store) : (O ++ (σ₁ ++ p :: a :: X)).Perm (σ₁ ++ p :: a :: (O ++ X)) := by
 refine List.Perm.trans (List.perm_append_comm_assoc O σ₁ _) (List.Perm.append_left σ₁ ?_)
 have h1 : (O ++ p :: a :: X).Perm (p :: (O ++ a :: X)) := List.perm_middle
 have h2 : (O ++ a :: X).Perm (a :: (O ++ X)) := List.perm_middle
 exact h1.trans (h2.cons p)
theorem perm_app (Y X O : Store) (σ₁ : Store) (p a : Addr × Cell) : (σ₁ ++ p :: (Y ++ a :: (O ++ X))).Perm (O ++ (σ₁ ++ p :: a :: (Y ++ X))) := by
 refine List.Perm.trans ?_ (Ic O σ₁ p a (Y ++ X)).symm
 refine List.Perm.append_left σ₁ (List.Perm.cons p ?_)
 refine List.perm_middle.trans (List.Perm.cons a ?_)
 exact List.perm_append_comm_assoc Y O X
theorem perm_fin (R : Store) (l : Addr × Cell) (τ : Store) (D : Addr × Cell) (X : Store) : ((R ++ l :: τ) ++ D :: X).Perm (R ++ l :: D :: (X ++ τ)) := by
 rw [List.append_assoc, List.cons_append]
 refine List.Perm.append_left R (List.Perm.cons l ?_)
 refine List.perm_middle.trans (List.Perm.cons D ?_)
 exact List.perm_append_comm
inductive CEnd (g : G) (h : Heap) (R : Store) (C D : Addr) (P : List V → Store → Prop) (s' : Shared) : Prop
 | mk (ds : List V) (X : Store) (m' : Loc) (i : P ds X) (S : SGd g (Fm R C m' ((D, .list ds) :: X)) (Hp s')) (k : Keeps h s'.heap) : CEnd g h R C D P s'
inductive CInv (g : G) (h : Heap) (R : Store) (C D : Addr) (P : Nat → List V → Store → Prop) (own : Nat → Store) (know : Heap → Prop) (N n : Nat) (s' : Shared) : Prop
 | mk (i : Nat) (ds : List V) (X : Store) (m' : Loc) (e : n + i = N) (I : P i ds X) (S : SGd g (own i ++ Fm R C m' ((D, .list ds) :: X)) (Hp s')) (k : Keeps h s'.heap) (kn : know s'.heap) : CInv g h R C D P own know N n s'
theorem comp_core {elt iter : Expr} {x : Str} {px pos : Pos} {ifs : List Expr} {scope : Scope} {cl : List (Str × Addr)} {RR : Value → Addr → Result → Shared → Prop} {A : Around} {s₁ : Shared} {v : Value} {d : V} {σ₁ : Store}
  (hcell : ∀ y ∈ scope.names, y.2 ≠ .cell) (hkind : scope.kind = .function) (hx : scope.names.lookup x = some .local) (r : Room A k) (S₁ : SGd g σ₁ (Hp s₁)) (iv : Is s₁.heap v d) (h₀ : Heap) (k₁ : Keeps h₀ s₁.heap)
  (q₁ : Cg g k σ₁ env elt x ifs scope cl d Q)
  (hRR : ∀ D C m' τ' s', SGd g ((C, .ns m') :: τ') (Hp s') → Keeps h₀ s'.heap → Q (.ref D) τ' → ∀ f, RR (.ref D) C (.ok f) s') :
  wpAny (model g.prog g.w) A (pyIter v) (fun it s₂ => wpAny (model g.prog g.w) A (newList []) (fun acc s₃ => wpAny (model g.prog g.w) A (newFunctionEnv scope env.globals cl [] env.qual none .none (some env)) (fun cenv s₄ =>
   codeAny (model g.prog g.w) A (.compStart (.ListComp elt [⟨.Name x px, iter, ifs, 0⟩] scope pos) 0 it acc { cenv with scope := relabel scope env }) (RR acc cenv.locals) s₄) NoE s₃) NoE s₂) NoE s₁ := by
 obtain ⟨R, L, m, τ, rfl, Inv, hI0, hsrc, turn, fin⟩ := q₁
 refine wpAny_mono (hI0 A r s₁ v S₁ iv) (fun itv s₂ ⟨it, I, e, S₂, k₂, kn, hI, hself⟩ => ?_) fun _ _ e => e
 subst e
 refine wpAny_newObj_type (wpAny_newFunctionEnv hcell (by intro y hy; simp at hy) (fun h₁ hns₁ hsb₁ => ?_) hkind)
 dsimp only at hns₁ hsb₁ ⊢
 generalize hH2 : s₂.heap.push { cls := .type "list", dict := none, data := .seq ([] : List Value).toArray } = H2 at hns₁ hsb₁ ⊢
 have kA : ∀ b o, s₂.heap.get? b = some o → H2.get? b = some o := fun b o e => by rw [← hH2]; exact Heap.get?_push_of_some _ e
 have sA : H2.objs.size = s₂.heap.objs.size + 1 := by rw [← hH2, Heap.size_push]
 have gA : H2.get? s₂.heap.objs.size = some (Cc [] 0) := by rw [← hH2]; exact Heap.get?_push_size _ rfl
 have kB : ∀ b o, H2.get? b = some o → h₁.get? b = some o := fun b o e => hsb₁.extBut b o (Nat.ne_of_lt (Heap.lt_size e)) (Heap.get?_push_of_some _ e)
 have SA : SGd g ((I.own 0 ++ Fm R L m τ) ++ [(s₂.heap.objs.size, .list [])]) ((Hp s₂).at H2) := by
  have S₂' : SGd g ((I.own 0 ++ Fm R L m τ) ++ []) (Hp s₂) := by rw [List.append_nil]; exact S₂
  exact S₂'.alloc kA (Nat.le_refl _) ⟨[], 0, gA, .nil⟩
 have SB : SGd g ((I.own 0 ++ Fm R L m τ) ++ [(H2.objs.size, .ns []), (s₂.heap.objs.size, .list [])]) ((Hp s₂).at h₁) := by
  exact SA.alloc kB (Nat.le_refl _) ⟨_, hns₁, fun x d e => by cases e⟩
 rw [List.append_assoc] at SB
 have kp : Keeps h₀ h₁ := k₁.trans (k₂.trans ((Keeps.of_all kA).trans (Keeps.of_all kB)))
 generalize H2.objs.size = C at SB ⊢
 generalize s₂.heap.objs.size = D at SB ⊢
 have kn₁ := I.mono _ _ ((Keeps.of_all kA).trans (Keeps.of_all kB)) kn
 refine codeAny_mono (R := fun r s' => match r with | .ok _ => CEnd g h₀ (Fm R L m τ) C D (Inv it I I.n) s' | .error _ => False) ?_ fun r s' hr => ?_
 ·have loop : ∀ s₃ : Shared, Hp s₃ = (Hp s₂).at h₁ → codeAny (model g.prog g.w) A (.compLoop (.ListComp elt [⟨.Name x px, iter, ifs, 0⟩] scope pos) 0 (.ref it) (.ref D) (compEnvC scope cl C env))
    (fun r s' => match r with | .ok _ => CEnd g h₀ (Fm R L m τ) C D (Inv it I I.n) s' | .error _ => False) s₃ := by
   intro s₃ e₃
   have e₄ : s₃.heap = h₁ := congrArg HS.toHeap e₃
   refine codeAny_compLoop_tests (CInv g h₀ (Fm R L m τ) C D (Inv it I) I.own I.know (I.n + 1)) ?_ (I.n + 1)
    ⟨0, [], [], [], rfl, hI, by rw [e₃]; exact SB, by rw [e₄]; exact kp, by rw [e₄]; exact kn₁⟩
   rintro n s₄ ⟨i, ds, X, m', hn, hI, S₄, k₄, kn₄⟩
   obtain ⟨hle, hz, hsr⟩ := hsrc it I i ds X hI
   by_cases hlt : i < I.n
   ·refine wpAny_mono (I.next i hlt A _ s₄ r.handled (hsr C m' D) kn₄ S₄) (fun o s₅ ⟨u, e, iu, S₅, k₅⟩ => ?_) fun _ _ e => e.elim
    subst e
    dsimp only
    refine wpAny_mono (AT (AF (env := compEnvC scope cl C env) (x := x) (d := I.item i) (Q := fun _ σ' => σ' = _) rfl hkind (lookup_relabel_local hx) rfl) A r s₅ u (S₅.perm (Ic ..)) iu) (fun _ s₆ ⟨_, σ₆, _, S₆, k₆, e₆⟩ => ?_) fun _ _ e => e.elim
    subst e₆
    have S₆' := S₆.weak (m := [(x, I.item i)]) (Sub.cons (by simp) .nil)
    refine wpAny_mono (turn it I i ds X C D hlt hI A r s₆ S₆') (fun ok s₇ ⟨b, σ₇, e, S₇, k₇, q₇⟩ => ?_) fun _ _ e => e.elim
    cases e
    cases ok
    ·rw [if_neg Bool.false_ne_true] at q₇ ⊢
     obtain ⟨m₇, rfl, hI₇⟩ := q₇
     exact ⟨n - 1, by omega, i + 1, ds, X, m₇, by omega, hI₇, S₇.perm (Ic ..).symm, k₄.trans (k₅.trans (k₆.trans k₇)), I.mono _ _ (k₅.trans (k₆.trans k₇)) kn₄⟩
    ·rw [if_pos rfl] at q₇ ⊢
     refine wpAny_mono (q₇ A r s₇ S₇) (fun y s₈ ⟨d', σ₈, i₈, S₈, k₈, Y, m₈, e₈, hI₈⟩ => ?_) fun _ _ e => e.elim
     subst e₈
     have u8 : Upd1 D (.list ds) (.list (ds ++ [d'])) (Fm (Fm R L m τ) C m₈ (Y ++ (D, .list ds) :: (I.own (i + 1) ++ X))) (Fm (Fm R L m τ) C m₈ (Y ++ (D, .list (ds ++ [d'])) :: (I.own (i + 1) ++ X))) :=
      Upd1.append_left (.tail (Upd1.append_left .head Y)) _
     refine wpAny_mono (Aa (k := k) (Q := fun _ σ' => σ' = _) u8 hz rfl A r s₈ [.ref D, y] S₈ (.cons (.ref D) (.cons i₈ .nil))) (fun _ s₉ ⟨_, σ₉, _, S₉, k₉, e₉⟩ => ?_) fun _ _ e => e.elim
     subst e₉
     exact ⟨n - 1, by omega, i + 1, ds ++ [d'], Y ++ X, m₈, by omega, hI₈, S₉.perm (perm_app ..), k₄.trans (k₅.trans (k₆.trans (k₇.trans (k₈.trans k₉)))), I.mono _ _ (k₅.trans (k₆.trans (k₇.trans (k₈.trans k₉)))) kn₄⟩
   ·have : i = I.n := Nat.le_antisymm hle (Nat.not_lt.mp hlt)
    subst this
    refine wpAny_mono (I.stop A _ s₄ r.handled (hsr C m' D) kn₄ S₄) (fun o s₅ ⟨e, S₅, k₅⟩ => ?_) fun _ _ e => e.elim
    subst e
    exact ⟨ds, X, m', hI, S₅, k₄.trans k₅⟩
  exact codeAny_compStart_list (loop _ rfl) (hself 0 A (Fm (Fm R L m τ) C [] [(D, .list [])]) _ _ _ SB (loop _ rfl))
 ·rcases r with e | f
  ·exact hr.elim
  ·obtain ⟨ds, X, m', hI', S', kp'⟩ := hr
   exact hRR D C m' _ s' ((S'.perm List.perm_middle).perm ((perm_fin ..).cons _)) kp' (fin it I ds X D hI') f
noncomputable abbrev CompK (g : G) (k : Nat) (env : Env) (elt : Expr) (x : Str) (ifs : List Expr) (scope : Scope) (cl : List (Str × Addr)) (Q : V → Store → Prop) : V → Store → Prop := fun d σ₁ => Cg g k σ₁ env elt x ifs scope cl d Q
noncomputable abbrev CompS (L : Addr) (y : Str) (Q : Fl → Store → Prop) : V → Store → Prop := fun d' σ' => ∃ R m τ, σ' = Fm R L m τ ∧ Q .next (Fm R L ((y, d') :: m) τ)
theorem Cp {elt iter : Expr} {x : Str} {px pos : Pos} {ifs : List Expr} {scope : Scope} {cl : List (Str × Addr)}
  (hclos : closureFor scope env = pure cl) (hcell : ∀ y ∈ scope.names, y.2 ≠ .cell) (hkind : scope.kind = .function)
  (hnames : ∀ y ∈ scope.names, y.2 = .local → scope.names.lookup y.1 = some .local) (hx : scope.names.lookup x = some .local)
  (h : WE g k σ env iter (CompK g k env elt x ifs scope cl Q))
  (hs : ∀ x, foldedSetIterable iter env x = pure x := by intro _; rfl) : WE g k σ env (.ListComp elt [⟨.Name x px, iter, ifs, 0⟩] scope pos) Q := fun A r s S => by
 rw [eval_ListComp]
 refine wpAny_comprehension_free (use := none) rfl hs hclos hkind hnames (W.run h r S fun v d σ₁ s₁ iv S₁ k₁ q₁ => ?_)
 refine comp_core (RR := fun acc C => compPost (model g.prog g.w) A NoE none (Post g Is s.heap Q) acc C) hcell hkind hx r S₁ iv s.heap k₁ q₁ fun D C m' τ' s' S' kp' q f => ?_
 obtain ⟨ml, hn, _⟩ := S'.cells (C, .ns m') (.head _)
 refine ⟨ml, hn, fun h' hs' => ?_⟩
 obtain ⟨S'', k''⟩ := S'.drop (h' := h') (fun b o hb e => hs'.extBut b o hb e)
 exact ⟨.ref D, _, .ref D, S'', kp'.trans k'', q⟩
theorem DT {elt iter : Expr} {x y : Str} {px py pos spos : Pos} {ifs : List Expr} {scope : Scope} {cl : List (Str × Addr)} {L : Addr} {Q : Fl → Store → Prop}
  (hsw : swapsWith (.ListComp elt [⟨.Name x px, iter, ifs, 0⟩] scope pos) (some (.Name y py)) spos.line env = pure true)
  (hclos : closureFor scope env = pure cl) (hcell : ∀ y ∈ scope.names, y.2 ≠ .cell) (hkind : scope.kind = .function)
  (hnames : ∀ y ∈ scope.names, y.2 = .local → scope.names.lookup y.1 = some .local) (hx : scope.names.lookup x = some .local)
  (h : WE g k σ env iter (CompK g k env elt x ifs scope cl (CompS L y Q)))
  (hs : ∀ x, foldedSetIterable iter env x = pure x := by intro _; rfl)
  (hk : env.scope.kind = .function := by rfl) (hl : env.kindOf y = some .local := by rfl) (hL : env.locals = L := by rfl) : WX g k σ env (.Assign [.Name y py] (.ListComp elt [⟨.Name x px, iter, ifs, 0⟩] scope pos) spos) Q := fun A r s S => by
 rw [exec_Assign_Name_used _ _ _ _ hsw]
 refine wpAny_bind (wpAny_standAt (wpAny_bind ?_))
 show wpAny _ A (do let _ ← comprehension (.ListComp elt [⟨.Name x px, iter, ifs, 0⟩] scope pos) scope env _ (newList []) false (eval iter env) (some (assign (.Name y py) env))) _ _ s
 refine wpAny_bind (wpAny_mono (wpAny_comprehension_free (use := some (assign (.Name y py) env)) (Q := fun _ s' => Post g IsFl s.heap Q .next s') rfl hs hclos hkind hnames
  (W.run h r S fun v d σ₁ s₁ iv S₁ k₁ q₁ => ?_)) (fun _ s' hq => wpAny_pure (wpAny_pure hq)) fun _ _ e => e)
 refine comp_core (RR := fun acc C => compPost (model g.prog g.w) A NoE (some (assign (.Name y py) env)) (fun _ s' => Post g IsFl s.heap Q .next s') acc C) hcell hkind hx r S₁ iv s.heap k₁ q₁ fun D C m' τ' s' S' kp' q f => ?_
 obtain ⟨R, m, τ, rfl, q⟩ := q
 show wpAny _ A (assign (.Name y py) env (.ref D)) _ _ _
 have S2 : SGd g (Fm ((C, .ns m') :: R) L m τ) (Hp s') := S'
 refine wpAny_mono (AT (k := k) (pos := py) (AF (env := env) (x := y) (d := .ref D) (Q := fun _ σ' => σ' = _) rfl hk hl hL) A r s' (.ref D) S2 (.ref D)) (fun _ s'' ⟨_, σ', _, S'', k'', e⟩ => ?_) fun _ _ e => e
 subst e
 have S3 : SGd g ((C, .ns m') :: Fm R L ((y, .ref D) :: m) τ) (Hp s'') := S''
 obtain ⟨ml, hn, _⟩ := S3.cells (C, .ns m') (.head _)
 refine ⟨ml, hn, fun h' hs' => ?_⟩
 obtain ⟨S4, k4⟩ := S3.drop (h' := h') (fun b o hb e => hs'.extBut b o hb e)
 exact ⟨.next, _, .next, S4, kp'.trans (k''.trans k4), q⟩
theorem ifs0 {σ : Store} {cenv : Env} {Q : Bool → Store → Prop} (q : Q true σ) : W g k EqR σ (ifsLoop [] cenv) Q := fun A r s S => wpAny_tests_nil (AM rfl S q)
theorem ifs1 {σ : Store} {cenv : Env} {c : Expr} {Q : Bool → Store → Prop} (q : WT g k σ cenv c Q) : W g k EqR σ (ifsLoop [c] cenv) Q := fun A r s S => wpAny_tests_one (q A r s S)
theorem comp_list {R τ : Store} {L : Addr} {m : Loc} {elt : Expr} {x : Str} {scope : Scope} {cl : List (Str × Addr)} {l : Addr} {xs : List V} (f : V → V) (hm : (l, Cell.list xs) ∈ Fm R L m τ) (hz : xs.length ≤ sizeLine)
  (turn : ∀ d ∈ xs, ∀ C τ', WE g k (Fm (Fm R L m τ) C [(x, d)] τ') (compEnvC scope cl C env) elt fun d' σ' => d' = f d ∧ σ' = Fm (Fm R L m τ) C [(x, d)] τ')
  (q : ∀ a, Q (.ref a) (Fm R L m ((a, .list (xs.map f)) :: τ))) : Cg g k (Fm R L m τ) env elt x [] scope cl (.ref l) Q := by
 refine ⟨R, L, m, τ, rfl, fun it I i ds X => I = itL g it l xs ∧ i ≤ xs.length ∧ ds = (xs.take i).map f ∧ X = [], CQ hm fun it => ⟨⟨rfl, Nat.zero_le _, rfl, rfl⟩, Ib _ _ _⟩, ?_, ?_, ?_⟩
 ·rintro it I i ds X ⟨rfl, hi, rfl, rfl⟩
  exact ⟨hi, by rw [List.length_map]; exact Nat.le_trans (List.length_take_le _ _) (Nat.le_trans hi hz), fun C m' D => List.mem_append_left _ hm⟩
 ·rintro it I i ds X C D hlt ⟨rfl, hi, rfl, rfl⟩
  have hlt' : i < xs.length := hlt
  refine ifs0 (DY rfl ?_)
  have e : (itL g it l xs).item i = xs[i] := by show xs.getD i .none = _; rw [List.getD_eq_getElem?_getD, List.getElem?_eq_getElem hlt']; rfl
  rw [e]
  refine W.mono (turn xs[i] (List.getElem_mem hlt') C _) fun d' σ' ⟨e1, e2⟩ => ?_
  subst e1; subst e2
  refine ⟨[], _, rfl, rfl, hlt', ?_, rfl⟩
  rw [List.take_succ, List.getElem?_eq_getElem hlt', List.map_append]; rfl
 ·rintro it I ds X D ⟨rfl, hi, rfl, rfl⟩
  have := q D
  rw [show (xs.take (itL g it l xs).n).map f = xs.map f by show (xs.take xs.length).map f = _; rw [List.take_length]]
  exact this
theorem Fh {R τ : Store} {L : Addr} {m : Loc} {elt c : Expr} {x : Str} {scope : Scope} {cl : List (Str × Addr)} {l : Addr} {xs : List V} (p : V → Bool) (f : V → V) (hm : (l, Cell.list xs) ∈ Fm R L m τ) (hz : xs.length ≤ sizeLine)
  (turn : ∀ d ∈ xs, ∀ C τ', WT g k (Fm (Fm R L m τ) C [(x, d)] τ') (compEnvC scope cl C env) c fun b σ' => b = p d ∧ σ' = Fm (Fm R L m τ) C [(x, d)] τ')
  (turn2 : ∀ d ∈ xs, p d = true → ∀ C τ', WE g k (Fm (Fm R L m τ) C [(x, d)] τ') (compEnvC scope cl C env) elt fun d' σ' => d' = f d ∧ σ' = Fm (Fm R L m τ) C [(x, d)] τ')
  (q : ∀ a, Q (.ref a) (Fm R L m ((a, .list ((xs.filter p).map f)) :: τ))) : Cg g k (Fm R L m τ) env elt x [c] scope cl (.ref l) Q := by
 refine ⟨R, L, m, τ, rfl, fun it I i ds X => I = itL g it l xs ∧ i ≤ xs.length ∧ ds = ((xs.take i).filter p).map f ∧ X = [], CQ hm fun it => ⟨⟨rfl, Nat.zero_le _, rfl, rfl⟩, Ib _ _ _⟩, ?_, ?_, ?_⟩
 ·rintro it I i ds X ⟨rfl, hi, rfl, rfl⟩
  exact ⟨hi, by rw [List.length_map]; exact Nat.le_trans (List.length_filter_le _ _) (Nat.le_trans (List.length_take_le _ _) (Nat.le_trans hi hz)), fun C m' D => List.mem_append_left _ hm⟩
 ·rintro it I i ds X C D hlt ⟨rfl, hi, rfl, rfl⟩
  have hlt' : i < xs.length := hlt
  have e : (itL g it l xs).item i = xs[i] := by show xs.getD i .none = _; rw [List.getD_eq_getElem?_getD, List.getElem?_eq_getElem hlt']; rfl
  rw [e]
  have et : xs.take (i + 1) = xs.take i ++ [xs[i]] := by rw [List.take_succ, List.getElem?_eq_getElem hlt']; rfl
  refine ifs1 (W.mono (turn xs[i] (List.getElem_mem hlt') C _) fun b σ' ⟨e1, e2⟩ => ?_)
  subst e1; subst e2
  refine AQ (fun h => ?_) (fun h => ?_)
  ·refine W.mono (turn2 xs[i] (List.getElem_mem hlt') h C _) fun d' σ' ⟨e1, e2⟩ => ?_
   subst e1; subst e2
   refine ⟨[], _, rfl, rfl, hlt', ?_, rfl⟩
   rw [et, List.filter_append, List.map_append]
   simp [h]
  ·refine ⟨_, rfl, rfl, hlt', ?_, rfl⟩
   rw [et, List.filter_append]
   simp [h]
 ·rintro it I ds X D ⟨rfl, hi, rfl, rfl⟩
  have := q D
  rw [show ((xs.take (itL g it l xs).n).filter p).map f = (xs.filter p).map f by show ((xs.take xs.length).filter p).map f = _; rw [List.take_length]]
  exact this
theorem comp_range_if {R τ : Store} {L : Addr} {m : Loc} {elt c : Expr} {x : Str} {scope : Scope} {cl : List (Str × Addr)} {rg : Addr} {a0 : Int} {n : Nat} (p : Nat → Bool) (f : Nat → V) (hm : (rg, Cell.pr (rngP a0 (a0 + n) 1)) ∈ Fm R L m τ) (hn : n ≤ 1000000)
  (hsz : Builtin.Range.rangeSize a0 (a0 + n) 1 = n ∧ Builtin.Range.small a0 (a0 + n) 1 = true)
  (turn : ∀ i, i < n → ∀ C τ', WT g k (Fm (Fm R L m τ) C [(x, .int (a0 + i))] τ') (compEnvC scope cl C env) c fun b σ' => b = p i ∧ σ' = Fm (Fm R L m τ) C [(x, .int (a0 + i))] τ')
  (turn2 : ∀ i, i < n → p i = true → ∀ C τ', WE g k (Fm (Fm R L m τ) C [(x, .int (a0 + i))] τ') (compEnvC scope cl C env) elt fun d' σ' => d' = f i ∧ σ' = Fm (Fm R L m τ) C [(x, .int (a0 + i))] τ')
  (q : ∀ a, Q (.ref a) (Fm R L m ((a, .list (((List.range n).filter p).map f)) :: τ))) : Cg g k (Fm R L m τ) env elt x [c] scope cl (.ref rg) Q := by
 refine ⟨R, L, m, τ, rfl, fun it I i ds X => I = itR g it a0 1 n ∧ i ≤ n ∧ ds = ((List.range i).filter p).map f ∧ X = [], CY hm hsz.2 hsz.1 fun it => ⟨⟨rfl, Nat.zero_le _, rfl, rfl⟩, itR_self _ _ _ _⟩, ?_, ?_, ?_⟩
 ·rintro it I i ds X ⟨rfl, hi, rfl, rfl⟩
  refine ⟨hi, ?_, fun C m' D => trivial⟩
  rw [List.length_map]
  have := List.length_filter_le p (List.range i)
  rw [List.length_range] at this
  rw [sizeLine_eq]; omega
 ·rintro it I i ds X C D hlt ⟨rfl, hi, rfl, rfl⟩
  have hlt' : i < n := hlt
  have e : (itR g it a0 1 n).item i = .int (a0 + i) := by show V.int (a0 + i * 1) = _; rw [Int.mul_one]
  rw [e]
  refine ifs1 (W.mono (turn i hlt' C _) fun b σ' ⟨e1, e2⟩ => ?_)
  subst e1; subst e2
  refine AQ (fun h => ?_) (fun h => ?_)
  ·refine W.mono (turn2 i hlt' h C _) fun d' σ' ⟨e1, e2⟩ => ?_
   subst e1; subst e2
   refine ⟨[], _, rfl, rfl, hlt', ?_, rfl⟩
   rw [List.range_succ, List.filter_append, List.map_append]
   simp [h]
  ·refine ⟨_, rfl, rfl, hlt', ?_, rfl⟩
   rw [List.range_succ, List.filter_append]
   simp [h]
 ·rintro it I ds X D ⟨rfl, hi, rfl, rfl⟩
  exact q D
end
end Mine
namespace Mine
theorem SGd.allocs {g : G} {σ τ : Store} {h : HS} {h' : Heap} (S : SGd g (σ ++ τ) h) (k : ∀ b o, h.get? b = some o → h'.get? b = some o) (new : Store) (ha : ∀ p ∈ new, h.objs.size ≤ p.1) (hn : (new.map (·.1)).Nodup) (hc : ∀ p ∈ new, CellIs g h' p.1 p.2) :
  SGd g (σ ++ (new ++ τ)) (h.at h') := by
 have S' := S.grow k
 have hne : ∀ p ∈ σ ++ τ, ∀ q ∈ new, p.1 ≠ q.1 := fun p hp q hq e => by
  have := S.lt (a := p.1) (c := p.2) hp
  rw [e] at this
  exact absurd this (Nat.not_lt.mpr (ha q hq))
 have h3 : 3 < h.objs.size := by
  obtain ⟨o, es, ep, e, _⟩ := g.T.g
  exact Heap.lt_size (S.keep _ _ e)
 have mem : ∀ {p}, p ∈ σ ++ (new ++ τ) → p ∈ σ ++ τ ∨ p ∈ new := fun {p} hp => by
  rcases List.mem_append.mp hp with q | q
  ·exact .inl (List.mem_append_left _ q)
  ·rcases List.mem_append.mp q with q | q
   ·exact .inr q
   ·exact .inl (List.mem_append_right _ q)
 refine ⟨fun p hp => (mem hp).elim (S'.cells p) (hc p), ?_, S'.keep, fun p hp => (mem hp).elim (S.fresh p) fun q => S.addr_none (ha p q), fun p hp => (mem hp).elim (S.big p) fun q => Nat.lt_of_lt_of_le h3 (ha p q), S.osq, S.geq⟩
 have e : ((σ ++ (new ++ τ)).map (·.1)).Perm ((new ++ (σ ++ τ)).map (·.1)) := List.Perm.map _ (List.perm_append_comm_assoc σ new τ)
 refine e.nodup_iff.mpr ?_
 rw [List.map_append]
 refine List.nodup_append.mpr ⟨hn, S.nodup, ?_⟩
 rintro a ha' b hb' rfl
 obtain ⟨p, hp, rfl⟩ := List.mem_map.mp hb'
 obtain ⟨q, hq, e⟩ := List.mem_map.mp ha'
 exact hne p hp q hq e.symm
theorem bindL_at (kindOf : Str → Option NameKind) : ∀ (binds : List (Str × Value)) (m0 : Str → Option Value) (y : Str), kindOf y = some .local → bindL kindOf binds m0 y = match binds.reverse.lookup y with | some v => some v | none => m0 y
 | [], m0, y, _ => rfl
 | (n, v) :: r, m0, y, hy => by
  unfold bindL
  rw [bindL_at kindOf r _ y hy, List.reverse_cons, List.lookup_append]
  cases r.reverse.lookup y with
  | some u => rfl
  | none =>
   simp only [Option.none_or, List.lookup_cons, List.lookup_nil]
   by_cases q : y = n
   ·subst q; simp [hy]
   ·have q' : (y == n) = false := beq_eq_false_iff_ne.mpr q
    simp only [q']
    split <;> simp [q]
theorem bindC_at (kindOf : Str → Option NameKind) : ∀ (binds : List (Str × Value)) (m0 : Str → Option Value) (y : Str), kindOf y ≠ some .local → bindC kindOf binds m0 y = match binds.reverse.lookup y with | some v => some v | none => m0 y
 | [], m0, y, _ => rfl
 | (n, v) :: r, m0, y, hy => by
  unfold bindC
  rw [bindC_at kindOf r _ y hy, List.reverse_cons, List.lookup_append]
  cases r.reverse.lookup y with
  | some u => rfl
  | none =>
   simp only [Option.none_or, List.lookup_cons, List.lookup_nil]
   by_cases q : y = n
   ·subst q; simp [hy]
   ·have q' : (y == n) = false := beq_eq_false_iff_ne.mpr q
    simp only [q']
    split <;> simp [q]
theorem Fi {β : Type} : ∀ {cs : List (Str × β)}, (cs.map (·.1)).Nodup → ∀ {n : Str} {c : β}, (n, c) ∈ cs → cs.lookup n = some c
 | [], _, _, _, h => by cases h
 | (y, b) :: r, hd, n, c, h => by
  rw [List.map_cons, List.nodup_cons] at hd
  rcases List.mem_cons.mp h with e | h
  ·cases e; simp
  ·have : n ≠ y := fun e => hd.1 (e ▸ List.mem_map_of_mem (f := (·.1)) h)
   have q' : (n == y) = false := beq_eq_false_iff_ne.mpr this
   simp only [List.lookup_cons, q']
   exact Fi hd.2 h
section
variable {g : G} {k : Nat}
theorem CT {f : Addr} {ds : List V} {R τ : Store} {Q : V → Store → Prop} {name qual : Str} {params : Arguments} {body : List Stmt} {scope : Scope} {dV kV doc pm cdv ct oc : Value} {an od : Option Addr} {osl : Array (Option Value)} (mAll m : Loc) (cc : Addr → Store)
  (ho : g.K.lookup f = some ⟨oc, od, .func (fnOf name qual params body scope dV kV doc pm an cdv ct), osl⟩) (hcd : codeIn g.K cdv qual = true)
  (hb : ∀ h vs, IsS h vs ds → ∃ binds, bindArgs (fnOf name qual params body scope dV kV doc pm an cdv ct) ⟨vs, []⟩ = pure binds ∧ LocR h binds.reverse mAll ∧ (binds.all fun y => scope.names.lookup y.1 == some .local || scope.names.lookup y.1 == some .cell) = true)
  (hm : m = mAll.filter fun e => scope.names.lookup e.1 == some .local)
  (hcc : ∀ L, cc L = (cellsFrom (L + 1) scope.names []).map fun e => (e.2, Cell.cell (mAll.lookup e.1)))
  (hnd : ((cellsFrom 0 scope.names []).map (·.1)).Nodup)
  (hkn : ∀ L, (cellsFrom (L + 1) scope.names []).all (fun e => !(scope.names.lookup e.1 == some .local)) = true)
  (h : ∀ L, WS g k (Fm R L m (cc L ++ τ)) (envOfC qual scope L f cdv) body (BC Q))
  (hco : scope.isCoroutine = false := by rfl) (hgen : scope.isGenerator = false := by rfl) (hk : scope.kind = .function := by rfl) :
  Fn g (k + 1) f ds (R ++ τ) Q := fun A r s vs S i => by
 have X := g.X.keeps S.keep
 obtain ⟨binds, hbd, hl, hloc⟩ := hb s.heap vs i
 refine codeAny_call_cells (fd := fnOf name qual params body scope dV kV doc pm an cdv ct) (body := body) (binds := binds) r.room (X _ _ ho) rfl (g.T.nolimit.keeps S.keep) (codeRec_of X hcd) rfl hbd rfl (kindsX hloc _) (fun s₁ hin => ?_) hco hgen hk
 have kp := Keeps.of_all hin.toInCall.keep
 have hkind : ∀ y, (callEnvC (fnOf name qual params body scope dV kV doc pm an cdv ct) s.heap.objs.size f).kindOf y = scope.names.lookup y := fun _ => rfl
 have hns : s₁.heap.Ns s.heap.objs.size _ := hin.toInCall.ns
 have nd : ∀ L, ((cellsFrom (L + 1) scope.names []).map (·.1)).Nodup := fun L => by
  have e : ∀ (names : List (Str × NameKind)) (a b : Nat) (acc acc' : List (Str × Addr)), acc.map (·.1) = acc'.map (·.1) → (cellsFrom a names acc).map (·.1) = (cellsFrom b names acc').map (·.1) := by
   intro names
   induction names with
   | nil => intro a b acc acc' q; exact q
   | cons x r ih =>
    intro a b acc acc' q
    obtain ⟨n, kd⟩ := x
    unfold cellsFrom
    split
    ·exact ih _ _ _ _ (by simp [q])
    ·exact ih _ _ _ _ q
  rw [e scope.names (L + 1) 0 [] [] rfl]; exact hnd
 have S₁ : SGd g (Fm R s.heap.objs.size m (cc s.heap.objs.size ++ τ)) (Hp s₁) := by
  have eHp : Hp s₁ = (Hp s).at s₁.heap := by obtain ⟨h, tk, e⟩ := hin.toInCall.same; rw [e]
  rw [eHp]
  have := S.allocs (h' := s₁.heap) hin.toInCall.keep ((s.heap.objs.size, .ns m) :: cc s.heap.objs.size) ?_ ?_ ?_
  ·simpa using this
  ·intro p hp
   rcases List.mem_cons.mp hp with rfl | hp
   ·exact Nat.le_refl _
   ·rw [hcc] at hp
    obtain ⟨e, he, rfl⟩ := List.mem_map.mp hp
    exact Nat.le_of_lt (hin.above e.1 e.2 he)
  ·rw [List.map_cons, List.nodup_cons]
   have ap : ((cellsFrom (s.heap.objs.size + 1) scope.names []).map (·.2)).Nodup := by
    have := hin.apart
    exact List.pairwise_map.mpr this
   have e2 : (cc s.heap.objs.size).map (·.1) = (cellsFrom (s.heap.objs.size + 1) scope.names []).map (·.2) := by rw [hcc, List.map_map]; rfl
   refine ⟨fun hmem => ?_, by rw [e2]; exact ap⟩
   rw [e2] at hmem
   obtain ⟨e, he, q⟩ := List.mem_map.mp hmem
   have := hin.above e.1 e.2 he
   rw [q] at this
   exact absurd this (Nat.lt_irrefl _)
  ·intro p hp
   rcases List.mem_cons.mp hp with rfl | hp
   ·refine ⟨_, hns, fun x d e => ?_⟩
    rw [hm] at e
    have hmem := mem_of_lookup e
    have hx : scope.names.lookup x = some .local := by
     have := (List.mem_filter.mp hmem).2
     exact beq_iff_eq.mp this
    have e' : mAll.lookup x = some d := by
     have : ∀ l : Loc, (l.filter fun e => scope.names.lookup e.1 == some .local).lookup x = l.lookup x := by
      intro l
      induction l with
      | nil => rfl
      | cons a l ih =>
       obtain ⟨a, c⟩ := a
       rw [List.filter_cons]
       by_cases q : x = a
       ·subst q; simp [hx]
       ·have q' : (x == a) = false := beq_eq_false_iff_ne.mpr q
        split <;> simp [List.lookup_cons, q', ih]
     rw [this] at e; exact e
    obtain ⟨v, hv, iv⟩ := hl.lookup x d e'
    refine ⟨v, ?_, iv.mono kp⟩
    rw [bindL_at _ _ _ _ (by rw [hkind]; exact hx), hv]
   ·rw [hcc] at hp
    obtain ⟨e, he, rfl⟩ := List.mem_map.mp hp
    have hc := hin.cell e.1 e.2 (Fi (nd _) he)
    obtain ⟨o, ho, hd⟩ := hc
    refine ⟨o, _, ho, hd, fun d' q => ?_⟩
    obtain ⟨v, hv, iv⟩ := hl.lookup e.1 d' q
    refine ⟨v, ?_, iv.mono kp⟩
    have hnl : (callEnvC (fnOf name qual params body scope dV kV doc pm an cdv ct) s.heap.objs.size f).kindOf e.1 ≠ some .local := by
     rw [hkind]
     have := List.all_eq_true.mp (hkn s.heap.objs.size) e he
     intro q; rw [q] at this; cases this
    rw [bindC_at _ _ _ _ hnl, hv]
 refine wpAny_mono (h s.heap.objs.size _ (r.deeper _) s₁ S₁) (fun fl s' ⟨d, σ', x, S', kp', q⟩ => ?_) fun _ _ e => e.elim
 cases x with
 | next => obtain ⟨σ₁, σ'', hs, hp, q⟩ := q; exact ⟨.none, σ'', .none, (S'.sublist hs).perm hp, kp.trans kp', q⟩
 | ret x => obtain ⟨σ₁, σ'', hs, hp, q⟩ := q; exact ⟨_, σ'', x, (S'.sublist hs).perm hp, kp.trans kp', q⟩
 | brk => exact q.elim
 | cont => exact q.elim
end
section
variable {g : G} {k : Nat} {σ : Store} {env : Env} {Q : V → Store → Prop} {R τ : Store} {L : Addr} {m : Loc}
theorem D2 {s : Shared} {ws : List Value} {ds : List V} {h : HS} (S : SGd g (Fm R L m τ) h) (i : IsS h.toHeap ws ds) : SGd g (Fm R L m ((h.objs.size, .list ds) :: τ)) (h.at (h.push (Cc ws 0))) := by
 have S' : SGd g ((R ++ [(L, .ns m)]) ++ τ) h := by simpa using S
 have := S'.alloc (a := h.objs.size) (c := .list ds) (h' := h.push (Cc ws 0)) (fun _ _ e => Heap.get?_push_of_some _ e) (Nat.le_refl _) ⟨ws, 0, Heap.get?_push_size _ rfl, i.mono (Keeps.push _ _)⟩
 simpa using this
theorem CU {l b : Addr} {xs ys : List V} (hl : (l, Cell.list xs) ∈ Fm R L m τ) (hb : (b, Cell.list ys) ∈ Fm R L m τ) (hz : xs.length + ys.length ≤ sizeLine) (q : ∀ a, Q (.ref a) (Fm R L m ((a, .list (xs ++ ys)) :: τ))) :
  O2 g k Is (Fm R L m τ) (binaryOp .Add) (.ref l) (.ref b) Q := fun A r s v u S i j => by
 rw [Ae i, Ae j]
 obtain ⟨vs, n, e, _, is⟩ := Aj S hl
 obtain ⟨ws, n2, e2, _, js⟩ := Aj S hb
 refine concat_meets ⟨_, e, rfl⟩ ⟨_, e2, rfl⟩ noFill_list_add seq_list_add PySem.F.slot_list_add PySem.F.entry_list_add (PySem.F.args_list_add_2 _ _) (list_addW l b vs.toArray ws.toArray n n2 none none #[] #[] (by simp only [List.size_toArray, is.length, js.length]; exact hz)) ⟨e, e2, ?_⟩
 have ea : vs.toArray ++ ws.toArray = (vs ++ ws).toArray := by simp
 rw [ea]
 exact ⟨.ref _, _, .ref _, D2 (s := s) S (is.append js), Keeps.push _ _, q _⟩
theorem Fj (items : List Value) : ∀ (n : Nat) (acc : Array Value), List.foldl (fun x1 x2 => x1 ++ x2) acc (List.replicate n items.toArray) = acc ++ (List.replicate n items).flatten.toArray
 | 0, acc => by simp
 | n + 1, acc => by
  rw [List.replicate_succ, List.foldl_cons, Fj items n, List.replicate_succ, List.flatten_cons]
  simp
theorem IsS.rep {h : Heap} {vs : List Value} {ds : List V} (i : IsS h vs ds) : ∀ n, IsS h (List.replicate n vs).flatten (List.replicate n ds).flatten
 | 0 => .nil
 | n + 1 => by rw [List.replicate_succ, List.replicate_succ, List.flatten_cons, List.flatten_cons]; exact i.append (i.rep n)
theorem O_mulL {l : Addr} {d : V} {n : Nat} {x : Int} (hx : x = n) (hl : (l, Cell.list [d]) ∈ Fm R L m τ) (hz : n ≤ 1000000) (q : ∀ a, Q (.ref a) (Fm R L m ((a, .list (List.replicate n d)) :: τ))) :
  O2 g k Is (Fm R L m τ) (binaryOp .Mult) (.ref l) (.int x) Q := fun A r s v u S i j => by
 rw [Ae i]; obtain ⟨t, rfl⟩ := Ab j
 obtain ⟨vs, c, e, _, is⟩ := Aj S hl
 have hlen : vs.length = 1 := is.length
 have hn : x.toNat = n := by omega
 have c1 : ¬ (!Builtin.List.listFitsIndex x) = true := by simp [Builtin.List.listFitsIndex]; omega
 have c2 : ¬ vs.toArray.size * x.toNat > (2 ^ 63 - 1) / 8 := by rw [List.size_toArray, hlen, hn]; omega
 have c3 : ¬ Builtin.List.listTooLong (vs.toArray.size * x.toNat) = true := by rw [List.size_toArray, hlen, hn]; unfold Builtin.List.listTooLong; rw [sizeLine_eq]; simp; omega
 refine wpAny_binaryOp_repeat_ref (T := "list") (U := "int") (by decide) ⟨_, e, rfl⟩ (fun s' => typeIs_int s' _ _) noFill_list_mul F.fills_int_mul F.slot_int_rmul repeat_list F.slot_int_index.lookup
  (call_meets F.slot_int_rmul (typeIs_int s _ _) F.entry_int_rmul (F.args_int_rmul_2 _ _) (int___rmul___int_list _ _ l vs.toArray c)
   ⟨e, rfl, ⟨_, e, rfl⟩, call_meets F.slot_list_mul ⟨_, e, rfl⟩ F.entry_list_mul (F.args_list_mul_2 _ _)
    (AutoListH.list___mul___list_int_3 l vs.toArray c x t c1 c2 c3)
    ⟨e, ?_⟩⟩)
 have e1 : List.foldl (fun x1 x2 => x1 ++ x2) #[] (List.replicate (if vs.toArray.isEmpty = true then 0 else x.toNat) vs.toArray) = (List.replicate n vs).flatten.toArray := by
  have : vs.toArray.isEmpty = false := by cases vs with | nil => cases hlen | cons _ _ => rfl
  rw [this, if_neg Bool.false_ne_true, hn, Fj]; simp
 have e2 : (List.replicate n [d]).flatten = List.replicate n d := List.flatten_replicate_singleton
 rw [e1]
 have is' := is.rep n
 rw [e2] at is'
 exact ⟨.ref _, _, .ref _, D2 (s := s) S is', Keeps.push _ _, q _⟩
end
end Mine
namespace Mine
section
variable {g : G} {k : Nat} {σ : Store} {env : Env} {Q : V → Store → Prop} {R τ : Store} {L : Addr} {m : Loc}
noncomputable abbrev WP (g : G) (k : Nat) (σ : Store) (env : Env) (e : Option Expr) (Q : V → Store → Prop) : Prop := W g k Is σ (evalPart e env) Q
theorem Br (q : Q .none σ) : WP g k σ env none Q := fun A r s S => wpAny_evalPart_none (AM .none S q)
theorem Bs {e : Expr} (h : WE g k σ env e Q) : WP g k σ env (some e) Q := fun A r s S => wpAny_evalPart_some (h A r s S)
noncomputable def Ge {α : Type} (ds : List α) (lo hi : Option Int) : List α := (sliceRange (sliceBounds lo hi none ds.length).1 (sliceBounds lo hi none ds.length).2.1 (sliceBounds lo hi none ds.length).2.2).filterMap (ds[·]?)
theorem IsS.places {h : Heap} {vs : List Value} {ds : List V} (i : IsS h vs ds) : ∀ js : List Nat, IsS h (js.filterMap (vs[·]?)) (js.filterMap (ds[·]?))
 | [] => .nil
 | j :: js => by
  have ih := i.places js
  cases hn : ds[j]? with
  | some n =>
   obtain ⟨v, hv, iv⟩ := i.get j n hn
   simp only [List.filterMap_cons, hn, hv]
   exact .cons iv ih
  | none =>
   have hv : vs[j]? = none := by
    rw [List.getElem?_eq_none_iff] at hn ⊢
    rw [i.length]; exact hn
   simp only [List.filterMap_cons, hn, hv]
   exact ih
theorem Dx {α : Type} (ds : List α) (a : Nat) : ∀ n, ((List.range n).map (a + ·)).filterMap (ds[·]?) = (ds.drop a).take n
 | 0 => by simp
 | n + 1 => by
  rw [List.range_succ, List.map_append, List.filterMap_append, Dx ds a n, List.take_add_one, List.getElem?_drop]
  cases h : ds[a + n]? <;> simp [h]
theorem Cq {α : Type} (ds : List α) (lo hi : Option Int) (a b : Nat) (h1 : (sliceBounds lo hi none ds.length).1 = a) (h2 : (sliceBounds lo hi none ds.length).2.1 = b) : Ge ds lo hi = (ds.drop a).take (b - a) := by
 unfold Ge
 rw [h1, h2, show (sliceBounds lo hi none ds.length).2.2 = 1 from rfl, sliceRange_one, Dx]
theorem D3 {α : Type} (ds : List α) (p : Nat) (h : p ≤ ds.length) : Ge ds none (some p) = ds.take p := by
 rw [Cq ds _ _ 0 p]
 ·rw [List.drop_zero, Nat.sub_zero]
 ·rfl
 ·simp [sliceBounds]; omega
theorem F4 {α : Type} (ds : List α) (p : Nat) (h : p ≤ ds.length) : Ge ds (some p) none = ds.drop p := by
 rw [Cq ds _ _ p ds.length]
 ·rw [List.take_of_length_le]; rw [List.length_drop]; exact Nat.le_refl _
 ·simp [sliceBounds]; omega
 ·simp [sliceBounds]
theorem Id {α : Type} (ds : List α) : Ge ds none (some (-1)) = ds.dropLast := by
 rw [Cq ds _ _ 0 (ds.length - 1)]
 ·rw [List.drop_zero, Nat.sub_zero, List.dropLast_eq_take]
 ·rfl
 ·simp [sliceBounds]; omega
inductive PartV : V → Option Int → Prop
 | none : PartV .none none
 | int (i : Int) : PartV (.int i) (some i)
noncomputable def SlO (g : G) (k : Nat) (value : Expr) (σ : Store) (d dl du : V) (Q : V → Store → Prop) : Prop :=
 ∀ A, Room A k → ∀ (s : Shared) (v vl vu : Value), SGd g σ (Hp s) → Is s.heap v d → Is s.heap vl dl → Is s.heap vu du → ∀ (lower upper : Option Expr) (p : Pos) h₀, Keeps h₀ s.heap → wpAny (model g.prog g.w) A (subscriptTail value (.Slice lower upper none p) v (.ref s.heap.objs.size)) (Post g Is h₀ Q) NoE { s with heap := s.heap.push { cls := .type "slice", data := .fields #[vl, vu, .none] } }
noncomputable abbrev SlK3 (g : G) (k : Nat) (value : Expr) (d dl : V) (Q : V → Store → Prop) : V → Store → Prop := fun du σ₃ => SlO g k value σ₃ d dl du Q
noncomputable abbrev SlK2 (g : G) (k : Nat) (env : Env) (value : Expr) (upper : Option Expr) (d : V) (Q : V → Store → Prop) : V → Store → Prop := fun dl σ₂ => WP g k σ₂ env upper (SlK3 g k value d dl Q)
noncomputable abbrev SlK1 (g : G) (k : Nat) (env : Env) (value : Expr) (lower upper : Option Expr) (Q : V → Store → Prop) : V → Store → Prop := fun d σ₁ => WP g k σ₁ env lower (SlK2 g k env value upper d Q)
theorem BX {value : Expr} {lower upper : Option Expr} {p pos : Pos} (h : WE g k σ env value (SlK1 g k env value lower upper Q)) :
  WE g k σ env (.Subscript value (.Slice lower upper none p) pos) Q := fun A r s S =>
 Subscript_ (W.run h r S fun a d σ₁ s₁ i₁ S₁ k₁ q₁ => wpAny_Slice (W.run q₁ r S₁ fun b d₂ σ₂ s₂ i₂ S₂ k₂ q₂ => W.run q₂ r S₂ fun c d₃ σ₃ s₃ i₃ S₃ k₃ q₃ => wpAny_evalPart_none
  (q₃ A r s₃ a b c S₃ (i₁.mono (k₂.trans k₃)) (i₂.mono k₃) i₃ lower upper p s.heap (k₁.trans (k₂.trans k₃)))))
theorem isPart {h : Heap} {v : Value} {d : V} {lo : Option Int} (i : Is h v d) (p : PartV d lo) : IsPart v lo := by
 cases p with
 | none => rw [FB i]; exact .none
 | int n => obtain ⟨t, rfl⟩ := Ab i; exact .int _ _
theorem Bc {value : Expr} {l : Addr} {ds : List V} {dl du : V} {lo hi : Option Int} (hl : (l, Cell.list ds) ∈ Fm R L m τ) (hz : ds.length ≤ sizeLine) (pl : PartV dl lo) (pu : PartV du hi)
  (q : ∀ a, Q (.ref a) (Fm R L m ((a, .list (Ge ds lo hi)) :: τ))) : SlO g k value (Fm R L m τ) (.ref l) dl du Q := fun A r s v vl vu S i il iu lower upper p h₀ kp => by
 rw [Ae i]
 obtain ⟨vs, n, e, hl', is⟩ := Aj S hl
 refine tail_any (Heap.IsList.typeIs (s := { s with heap := s.heap.push { cls := .type "slice", data := .fields #[vl, vu, .none] } }) (hl'.push _)) list_getitem_lookup
  (wpAny_getItem_list_slice (hl'.push _) (Heap.IsSliceOf.new ..) (isPart il pl) (isPart iu pu) .none (by simp) ?_ (by rw [List.size_toArray, is.length]; exact hz)) rfl
 have k1 : ∀ b o, s.heap.get? b = some o → (s.heap.push { cls := .type "slice", data := .fields #[vl, vu, .none] }).get? b = some o := fun b o e => Heap.get?_push_of_some _ e
 have is' : IsS (s.heap.push { cls := .type "slice", data := .fields #[vl, vu, .none] }) (slicePick vs.toArray lo hi none).toList (Ge ds lo hi) := by
  have e1 : (slicePick vs.toArray lo hi none).toList = (sliceRange (sliceBounds lo hi none ds.length).1 (sliceBounds lo hi none ds.length).2.1 (sliceBounds lo hi none ds.length).2.2).filterMap (vs[·]?) := by
   simp [slicePick, is.length]
  rw [e1]
  exact (is.mono (Keeps.of_all k1)).places _
 have S2 := D2 (s := s) (S.grow k1) is'
 have e2 : (slicePick vs.toArray lo hi none) = (slicePick vs.toArray lo hi none).toList.toArray := by simp
 rw [e2]
 exact ⟨.ref _, _, .ref _, S2, kp.trans ((Keeps.of_all k1).trans (Keeps.push _ _)), q _⟩
theorem O_eqNil {l b : Addr} {xs : List V} (hl : (l, Cell.list xs) ∈ σ) (hb : (b, Cell.list []) ∈ σ) (q : Q (.bool xs.isEmpty) σ) : O2 g k Is σ (compareOp .Eq) (.ref l) (.ref b) Q := fun A r s v u S i j => by
 rw [Ae i, Ae j]
 obtain ⟨vs, n, e, hl', is⟩ := Aj S hl
 obtain ⟨ws, n2, e2, hb', js⟩ := Aj S hb
 have hw : ws = [] := List.eq_nil_of_length_eq_zero js.length
 subst hw
 cases xs with
 | nil =>
  have hv : vs = [] := List.eq_nil_of_length_eq_zero is.length
  subst hv
  exact eq_listAt (e := fun _ => true) hl' hb' rfl r.unit (fun j h1 => absurd h1 (Nat.not_lt_zero _)) (AM (.bool _) S q)
 | cons x xs =>
  refine eq_list_lengthsAt hl' hb' ?_ r.unit (AM (.bool _) S q)
  have := is.length
  simp [this]
theorem HP {l b : Addr} {xs : List V} (hl : (l, Cell.list xs) ∈ σ) (hb : (b, Cell.list []) ∈ σ) (q : Q (.bool (!xs.isEmpty)) σ) : O2 g k Is σ (compareOp .NotEq) (.ref l) (.ref b) Q := fun A r s v u S i j => by
 rw [Ae i, Ae j]
 obtain ⟨vs, n, e, hl', is⟩ := Aj S hl
 obtain ⟨ws, n2, e2, hb', js⟩ := Aj S hb
 have hw : ws = [] := List.eq_nil_of_length_eq_zero js.length
 subst hw
 cases xs with
 | nil =>
  have hv : vs = [] := List.eq_nil_of_length_eq_zero is.length
  subst hv
  exact RcNeAt.lists (e := fun _ => true) hl' hb' rfl r.unit (fun j h1 => absurd h1 (Nat.not_lt_zero _)) g.prog g.w NoE _ (AM (.bool _) S q)
 | cons x xs =>
  refine RcNeAt.lists_lengths hl' hb' ?_ r.unit g.prog g.w NoE _ (AM (.bool _) S q)
  have := is.length
  simp [this]
theorem EI {h : Heap} : ∀ (t : Nat) (ws : List Str), IsS h (strsFrom t ws) (ws.map V.str)
 | _, [] => .nil
 | t, x :: r => .cons (.str x t) (EI (t + 1) r)
theorem Bg {x : Str} {ws : List Str} (h1 : (spaceWords x (x.length + 1) == [(0, x.length)]) = false) (hw : PySem.wordsOf x = ws) (hx : Nat.ble x.length 1000 = true) (hn : Nat.ble ws.length 1000 = true) (q : ∀ a, Q (.ref a) (Fm R L m ((a, .list (ws.map V.str)) :: τ))) :
  Cl g k (.builtin "str.split") [.str x] (Fm R L m τ) Q := fun A r s vs S i => by
 obtain ⟨v, rfl, iv⟩ := G0 i
 obtain ⟨t, rfl⟩ := B5 iv
 have e : (spaceWords x (x.length + 1)).length = ws.length := by rw [← hw]; unfold PySem.wordsOf; rw [List.length_map]
 refine call_meets F.slot_str_split (typeIs_str _ _ _) F.entry_str_split (F.args_str_split_1 _) (meets_str_split_space x t (sz_lit hx) (by rw [e]; exact sz_lit hn)) ?_
 rw [h1, if_neg Bool.false_ne_true, hw]
 exact ⟨.ref _, _, .ref _, D2 (s := s) S (EI _ _), Keeps.push _ _, q _⟩
theorem Cl_splitC {x y : Str} (hy : (y.length == 0) = false) (hx : x.length ≤ 1000) (q : ∀ a, Q (.ref a) (Fm R L m ((a, .list ((Txt.split x y).map V.str)) :: τ))) :
  Cl g k (.builtin "str.split") [.str x, .str y] (Fm R L m τ) Q := fun A r s vs S i => by
 obtain ⟨v, u, rfl, iv, iu⟩ := isS2 i
 obtain ⟨t, rfl⟩ := B5 iv
 obtain ⟨t', rfl⟩ := B5 iu
 have hle := split_le x y
 have q' : ∀ a, Txt.split x y = a → ∀ b, Q (.ref b) (Fm R L m ((b, .list (a.map V.str)) :: τ)) := fun a e b => e ▸ q b
 have hsz : x.length ≤ sizeLine := by rw [sizeLine_eq]; omega
 unfold Txt.split at q' hle
 by_cases h1 : (decide (x.length < y.length) || decide (PySem.Builtin.Str.strKind x < PySem.Builtin.Str.strKind y)) = true
 ·rw [if_pos h1] at q'
  refine call_meets F.slot_str_split (typeIs_str _ _ _) F.entry_str_split (F.args_str_split_2 _ _) (meets_str_split_cannot_occur x y t t' h1) ?_
  exact ⟨.ref _, _, .ref _, D2 (s := s) S (.cons (.str _ _) .nil), Keeps.push _ _, q' [x] rfl _⟩
 ·rw [if_neg h1] at q' hle
  have h1 : (decide (x.length < y.length) || decide (PySem.Builtin.Str.strKind x < PySem.Builtin.Str.strKind y)) = false := by simpa using h1
  by_cases h2 : (occurrences x y 0 x.length (x.length + 1)).isEmpty = true
  ·rw [if_pos h2] at q'
   refine call_meets F.slot_str_split (typeIs_str _ _ _) F.entry_str_split (F.args_str_split_2 _ _) (meets_str_split_not_found x y t t' h1 hy h2) ?_
   exact ⟨.ref _, _, .ref _, D2 (s := s) S (.cons (.str _ _) .nil), Keeps.push _ _, q' [x] rfl _⟩
  ·rw [if_neg h2] at q' hle
   refine call_meets F.slot_str_split (typeIs_str _ _ _) F.entry_str_split (F.args_str_split_2 _ _) (meets_str_split_sep x y t t' h1 hy (by simpa using h2) hsz (by rw [sizeLine_eq]; omega)) ?_
   exact ⟨.ref _, _, .ref _, D2 (s := s) S (EI _ _), Keeps.push _ _, q' _ rfl _⟩
theorem O_chr {value slice : Expr} {x : Str} {i : Int} {c : Nat} (hr : (decide (i < -(2 ^ 63 : Int)) || decide (i ≥ 2 ^ 63)) = false) (hc : (seqIndex? i x.length).bind (x.cps[·]?) = some c) (q : Q (.str ⟨#[c]⟩) σ)
  (hs : ∀ o v, subscripted slice false o v = operate [o, v] (getItem o v) := by intro _ _; with_unfolding_all rfl) : O2 g k Is σ (subscriptTail value slice) (.str x) (.int i) Q := fun A r s v u S iv ju => by
 obtain ⟨t, rfl⟩ := B5 iv; obtain ⟨t', rfl⟩ := Ab ju
 exact tail_any (typeIs_str _ _ _) F.slot_str_getitem.lookup (getItem_str hr hc (AM (s := { s with toks := s.toks + 1 }) (.str _ _) S q)) (hs _ _)
noncomputable def Dm (x : Str) : Str := if (strSliceIndices (some 1) none 1 x.length).length == x.length then x else ⟨((strSliceIndices (some 1) none 1 x.length).filterMap (x.cps[·]?)).toArray⟩
theorem SlO_tail {value : Expr} {x : Str} (hx : x.length ≤ 1000) (q : Q (.str (Dm x)) σ) : SlO g k value σ (.str x) (.int 1) .none Q := fun A r s v vl vu S i il iu lower upper p h₀ kp => by
 obtain ⟨t, rfl⟩ := B5 i; obtain ⟨t', rfl⟩ := Ab il; rw [FB iu]
 have k1 : ∀ b o, s.heap.get? b = some o → (s.heap.push { cls := .type "slice", data := .fields #[.int 1 t', .none, .none] }).get? b = some o := fun b o e => Heap.get?_push_of_some _ e
 refine tail_any (s := { s with heap := s.heap.push { cls := .type "slice", data := .fields #[.int 1 t', .none, .none] } }) (typeIs_str _ _ _) F.slot_str_getitem.lookup
  (wpAny_getItem_str_slice (l := some (1, t')) (u := none) (st := none) ⟨_, Heap.get?_push_size _ rfl, rfl, rfl⟩ rfl ?_) rfl
 unfold sliceMade
 have key : Dm x = if ((strSliceIndices (some 1) none 1 x.length).length == x.length) = true then x else ⟨((strSliceIndices (some 1) none 1 x.length).filterMap (x.cps[·]?)).toArray⟩ := rfl
 have e0 : slicePicked x (some (1, t')) none none = strSliceIndices (some 1) none 1 x.length := rfl
 rw [e0]
 by_cases h : ((strSliceIndices (some 1) none 1 x.length).length == x.length) = true
 ·rw [if_pos (by rw [h]; rfl)]
  rw [if_pos h] at key
  exact ⟨.str x, σ, .str _ _, S.grow k1, kp.trans (Keeps.of_all k1), key ▸ q⟩
 ·rw [if_neg (by simpa using h)]
  rw [if_neg h] at key
  refine ⟨?_, .str _, σ, .str _ _, S.grow k1, kp.trans (Keeps.of_all k1), key ▸ q⟩
  show ((strSliceIndices (some 1) none 1 x.length).filterMap (x.cps[·]?)).toArray.size ≤ sizeLine
  rw [List.size_toArray, sizeLine_eq]
  have h1 := List.length_filterMap_le (x.cps[·]?) (strSliceIndices (some 1) none 1 x.length)
  have h2 : (strSliceIndices (some 1) none 1 x.length).length ≤ x.length := by
   unfold strSliceIndices
   exact sliceRange_length_le _ _ _ _ (fun _ => by simp; omega) (fun h => absurd h (by decide))
  omega
theorem Cl_strI {a : Int} (ha : a.natAbs.log2 < 1920) (q : Q (.str (Str.ofString (toString a))) σ) : Cl g k (.type "str") [.int a] σ Q := fun A r s vs S i => by
 obtain ⟨v, rfl, iv⟩ := G0 i
 obtain ⟨t, rfl⟩ := Ab iv
 exact P.str_of_int ha (AM (s := { s with toks := s.toks + 1 }) (.str _ _) S q)
end
end Mine
namespace Mine
section
variable {g : G} {k : Nat} {σ : Store} {env : Env} {Q : V → Store → Prop} {R τ : Store} {L : Addr} {m : Loc}
theorem SGd.allocF {c : Cell} {a : Addr} {h : HS} {h' : Heap} (S : SGd g (Fm R L m τ) h) (k : ∀ b o, h.get? b = some o → h'.get? b = some o) (ha : h.objs.size ≤ a) (hc : CellIs g h' a c) : SGd g (Fm R L m ((a, c) :: τ)) (h.at h') := by
 have S' : SGd g ((R ++ [(L, .ns m)]) ++ τ) h := by simpa using S
 have := S'.alloc (a := a) (c := c) (h' := h') k ha hc
 simpa using this
theorem Fk {pos : Pos} (q : ∀ a, Q (.ref a) (Fm R L m ((a, .idict []) :: τ))) : WE g k (Fm R L m τ) env (.Dict [] [] pos) Q := fun A r s S =>
 wpAny_Dict_empty ⟨.ref _, _, .ref _, S.allocF (a := s.heap.objs.size) (c := .idict []) (h' := s.heap.push { cls := .type "dict", data := .dict #[] }) (fun _ _ e => Heap.get?_push_of_some _ e) (Nat.le_refl _) ⟨[], Heap.DictOf.new _, .nil⟩, Keeps.push _ _, q _⟩
noncomputable def PairsR (h : Heap) (ps : List (Value × Value)) (es : List (Str × V)) : Prop := ∃ kvs, Carries (strKind g.prog g.w) ps kvs ∧ Vals h kvs es
theorem PairsR.nil {h : Heap} : PairsR (g := g) h [] [] := ⟨[], trivial, .nil⟩
theorem PairsR.cons {h : Heap} {x : Str} {t : Tok} {v : Value} {d : V} {ps : List (Value × Value)} {es : List (Str × V)} (i : Is h v d) (r : PairsR (g := g) h ps es) : PairsR (g := g) h ((.str x t, v) :: ps) ((x, d) :: es) :=
 let ⟨kvs, c, vs⟩ := r; ⟨(x, v) :: kvs, ⟨strKind_is _ _ x t, rfl, c⟩, .cons i vs⟩
noncomputable abbrev WD (g : G) (k : Nat) (σ : Store) (env : Env) (pos : Pos) (ks : List (Option Expr)) (vs : List Expr) (Q : List (Str × V) → Store → Prop) : Prop := W g k (PairsR (g := g)) σ (evalPairs (pairTrees ks vs env pos)) Q
theorem WD_nil {pos : Pos} {Q : List (Str × V) → Store → Prop} (q : Q [] σ) : WD g k σ env pos [] [] Q := fun A r s S => pairTrees_nil_walk (AM PairsR.nil S q)
noncomputable abbrev DicK2 (x : Str) (d : V) (Q : List (Str × V) → Store → Prop) : List (Str × V) → Store → Prop := fun es σ'' => Q ((x, d) :: es) σ''
noncomputable abbrev DicK (g : G) (k : Nat) (env : Env) (pos : Pos) (ks : List (Option Expr)) (vs : List Expr) (x : Str) (Q : List (Str × V) → Store → Prop) : V → Store → Prop := fun d σ' => WD g k σ' env pos ks vs (DicK2 x d Q)
theorem BV {pos pc : Pos} {x : Str} {n} {ks : List (Option Expr)} {v : Expr} {vs : List Expr} {Q : List (Str × V) → Store → Prop} (h : WE g k σ env v (DicK g k env pos ks vs x Q)) :
  WD g k σ env pos (some (.Constant (.str x) n pc) :: ks) (v :: vs) Q := fun A r s S =>
 pairTrees_cons_walk (W.run (A9 (k := k) (env := env) (n := n) (pos := pc) (Q := fun d σ' => d = .str x ∧ σ' = σ) ⟨rfl, rfl⟩) r S fun a d σ₀ s₀ i₀ S₀ k₀ ⟨e1, e2⟩ => by
  subst e1; subst e2
  obtain ⟨t, rfl⟩ := B5 i₀
  exact W.run h r S₀ fun b d σ₁ s₁ i₁ S₁ k₁ q₁ => W.run q₁ r S₁ fun ps es σ₂ s₂ pr S₂ k₂ q₂ => ⟨_, σ₂, pr.cons (i₁.mono k₂), S₂, k₀.trans (k₁.trans k₂), q₂⟩)
theorem Vals.keys {K : Type} {h : Heap} {kvs : List (K × Value)} {es : List (K × V)} (x : Vals h kvs es) : kvs.map (·.1) = es.map (·.1) := by
 induction x with
 | nil => rfl
 | cons _ _ ih => simp [ih]
theorem Ie {keys : List (Option Expr)} {values : List Expr} {pos : Pos} (hall : keys.all (·.isSome) = true) (hl : keys.length = values.length) (h0 : keys ≠ []) (hlen : keys.length ≤ 15)
  (h : ∀ D, WD g k (Fm R L m ((D, .sdict []) :: τ)) env pos keys values fun es σ' => ∃ Y, σ' = Fm R L m (Y ++ (D, .sdict []) :: τ) ∧ (es.map (·.1)).Nodup ∧ Q (.ref D) (Fm R L m (Y ++ (D, .sdict es) :: τ))) :
  WE g k (Fm R L m τ) env (.Dict keys values pos) Q := fun A r s S => by
 refine wpAny_Dict_walk (knd := strKind g.prog g.w) hall hl h0 hlen ?_
 have S' := S.allocF (a := s.heap.objs.size) (c := .sdict []) (h' := s.heap.push { cls := .type "dict", data := .dict #[] }) (fun _ _ e => Heap.get?_push_of_some _ e) (Nat.le_refl _) ⟨[], Heap.DictOf.new _, .nil⟩
 refine W.run (h s.heap.objs.size) r (s := { s with heap := s.heap.push { cls := .type "dict", data := .dict #[] } }) S' fun ps es σ₁ s₁ pr S₁ k₁ ⟨Y, e, hnd, q⟩ => ?_
 subst e
 obtain ⟨kvs, c, vs⟩ := pr
 have u : Upd1 s.heap.objs.size (.sdict []) (.sdict es) (Fm R L m (Y ++ (s.heap.objs.size, .sdict []) :: τ)) (Fm R L m (Y ++ (s.heap.objs.size, .sdict es) :: τ)) := Upd1.append_left (.tail (Upd1.append_left .head Y)) R
 obtain ⟨kvs0, hd0, vs0⟩ := S₁.cells _ u.mem
 cases vs0
 refine ⟨kvs, c, hd0, fun h' hd hs => ?_⟩
 rw [merged_nil_of_nodup kvs (by rw [vs.keys]; exact hnd)] at hd
 obtain ⟨S₂, k₂⟩ := S₁.turn u (h' := h') (fun b o hb eb => hs.extBut b o hb eb) fun kp => ⟨kvs, hd, vs.mono kp⟩
 exact ⟨.ref _, _, .ref _, S₂, (Keeps.push _ _).trans (k₁.trans k₂), q⟩
theorem TyOf.idict {d : Addr} {es : List (Int × V)} (m : (d, Cell.idict es) ∈ σ) : TyOf g σ (.ref d) "dict" := fun s v S i => by
 obtain ⟨kvs, hd, _⟩ := S.cells _ m
 rw [Ae i]
 refine ⟨hd.typeIs, fun a q => by cases q; obtain ⟨o, en, ep, e, hx, _⟩ := hd; exact ⟨o, e, hx.2.1⟩⟩
theorem TyOf.sdict {d : Addr} {es : List (Str × V)} (m : (d, Cell.sdict es) ∈ σ) : TyOf g σ (.ref d) "dict" := fun s v S i => by
 obtain ⟨kvs, hd, _⟩ := S.cells _ m
 rw [Ae i]
 refine ⟨hd.typeIs, fun a q => by cases q; obtain ⟨o, en, ep, e, hx, _⟩ := hd; exact ⟨o, e, hx.2.1⟩⟩
theorem Cl_getI {d : Addr} {es : List (Int × V)} {i : Int} {dd : V} (m : (d, Cell.idict es) ∈ σ) (q : Q ((atI es i).getD dd) σ) : Cl g k (.builtin "dict.get") [.ref d, .int i, dd] σ Q := fun A r s vs S is => by
 obtain ⟨v, u, w, rfl, iv, iu, iw⟩ := isS3 is
 rw [Ae iv]; obtain ⟨t, rfl⟩ := Ab iu
 obtain ⟨kvs, hd, vals⟩ := S.cells _ m
 refine call_meetsIn F.slot_dict_get hd.typeIs F.entry_dict_get (F.args_dict_get_3 _ _ _) (meets_dict_get_default (knd := intKind g.prog g.w) d (intKind_is _ _ i t) (Hc S m) w) ⟨valueAt kvs, hd.mapOf, ?_⟩
 cases e : atI es i with
 | none =>
  rw [(vals.lookup i).1 (atI_none e)]
  rw [e] at q
  exact ⟨dd, σ, iw, S, Keeps.refl _, q⟩
 | some x =>
  obtain ⟨y, hy, iy⟩ := (vals.lookup i).2 x e
  rw [hy]
  rw [e] at q
  exact ⟨x, σ, iy, S, Keeps.refl _, q⟩
theorem Cl_getS {d : Addr} {es : List (Str × V)} {i : Str} {dd : V} (m : (d, Cell.sdict es) ∈ σ) (q : Q ((atS es i).getD dd) σ) : Cl g k (.builtin "dict.get") [.ref d, .str i, dd] σ Q := fun A r s vs S is => by
 obtain ⟨v, u, w, rfl, iv, iu, iw⟩ := isS3 is
 rw [Ae iv]; obtain ⟨t, rfl⟩ := B5 iu
 obtain ⟨kvs, hd, vals⟩ := S.cells _ m
 refine call_meetsIn F.slot_dict_get hd.typeIs F.entry_dict_get (F.args_dict_get_3 _ _ _) (meets_dict_get_default (knd := strKind g.prog g.w) d (strKind_is _ _ i t) (Hc S m) w) ⟨valueAt kvs, hd.mapOf, ?_⟩
 cases e : atS es i with
 | none =>
  rw [(vals.lookup i).1 (atS_none e)]
  rw [e] at q
  exact ⟨dd, σ, iw, S, Keeps.refl _, q⟩
 | some x =>
  obtain ⟨y, hy, iy⟩ := (vals.lookup i).2 x e
  rw [hy]
  rw [e] at q
  exact ⟨x, σ, iy, S, Keeps.refl _, q⟩
theorem Cl_dictI {d : Addr} {es : List (Int × V)} (hm : (d, Cell.idict es) ∈ Fm R L m τ) (hz : es.length ≤ sizeLine) (q : ∀ a, Q (.ref a) (Fm R L m ((a, .idict es) :: τ))) : Cl g k (.type "dict") [.ref d] (Fm R L m τ) Q := fun A r s vs S is => by
 obtain ⟨v, rfl, iv⟩ := G0 is
 rw [Ae iv]
 obtain ⟨kvs, hd, vals⟩ := S.cells _ hm
 refine kt_call_dict (Hc S hm) hd (by rw [vals.length]; exact hz) fun h' hd' hs => ?_
 have kp : ∀ b o, s.heap.get? b = some o → h'.get? b = some o := fun b o e => hs.extBut b o (Nat.ne_of_lt (Heap.lt_size e)) (Heap.get?_push_of_some _ e)
 exact ⟨.ref _, _, .ref _, S.allocF (a := s.heap.objs.size) (c := .idict es) (h' := h') kp (Nat.le_refl _) ⟨kvs, hd', vals.mono (Keeps.of_all kp)⟩, Keeps.of_all kp, q _⟩
theorem Cl_index {l : Addr} {xs : List Str} {x : Str} (hm : (l, Cell.list (xs.map V.str)) ∈ σ) (hx : x ∈ xs) (hz : xs.length ≤ 1000000) (q : Q (.int (xs.idxOf x)) σ) : Cl g k (.builtin "list.index") [.ref l, .str x] σ Q := fun A r s vs S is => by
 obtain ⟨v, u, rfl, iv, iu⟩ := isS2 is
 rw [Ae iv]; obtain ⟨t, rfl⟩ := B5 iu
 obtain ⟨ws, n, e, hl, ws'⟩ := Aj S hm
 have hlen : ws.length = xs.length := by rw [ws'.length, List.length_map]
 have hj : xs.idxOf x < xs.length := List.idxOf_lt_length_of_mem hx
 have at' : ∀ j (hj : j < ws.toArray.size), (ws.toArray[j]).isStr x = (xs.getD j (zs "") == x) := fun j hj => by
  have hj' : j < xs.length := by rw [List.size_toArray, hlen] at hj; exact hj
  obtain ⟨y, hy, iy⟩ := ws'.get j (.str xs[j]) (by rw [List.getElem?_map, List.getElem?_eq_getElem hj']; rfl)
  have : ws.toArray[j] = y := by
   have h2 : ws[j]? = some ws[j] := List.getElem?_eq_getElem (by rw [hlen]; exact hj')
   rw [h2] at hy; simpa using hy
  rw [this]
  obtain ⟨t', rfl⟩ := B5 iy
  rw [List.getD_eq_getElem?_getD, List.getElem?_eq_getElem hj']; rfl
 refine call_meets F.slot_list_index hl.typeIs F.entry_list_index (F.args_list_index_2 _ _) (list_indexAt l ws.toArray n none #[] (.str x t) (fun y => y.isStr x) (xs.idxOf x) (by rw [List.size_toArray, hlen]; exact hj) (by omega) ?_ ?_) ⟨e, ?_, ?_⟩
 ·rw [at', List.getD_eq_getElem?_getD, List.getElem?_eq_getElem hj]; simp
 ·intro m hm' hlt
  rw [at', List.getD_eq_getElem?_getD, List.getElem?_eq_getElem (by omega)]
  have := List.not_of_lt_findIdx (p := (· == x)) (xs := xs) (i := m) hlt
  simpa using this
 ·exact E5 ws' (E4 xs)
 ·exact AM (s := { s with toks := s.toks + 1 }) (.int _ _) S q
end
end Mine
namespace Mine
noncomputable def EqE (g : G) (n : Nat) (σ : Store) (d e : V) : Prop := ∀ (A : Around) (s : Shared) (v u : Value), A.units + n < cLine → SGd g σ (Hp s) → Is s.heap v d → Is s.heap u e → EqAt A s v u true
inductive EqS (g : G) (n : Nat) (σ : Store) : List V → List V → Prop
 | nil : EqS g n σ [] []
 | cons {d e ds es} : EqE g n σ d e → EqS g n σ ds es → EqS g n σ (d :: ds) (e :: es)
section
variable {g : G} {k n : Nat} {σ : Store} {env : Env} {Q : V → Store → Prop} {R τ : Store} {L : Addr} {m : Loc}
theorem EqE.int (i : Int) : EqE g n σ (.int i) (.int i) := fun A s v u _ _ iv iu => by
 obtain ⟨t, rfl⟩ := Ab iv; obtain ⟨t', rfl⟩ := Ab iu
 have := EqAt.int_int (A := A) (s := s) i t i t'
 rwa [beq_self_eq_true] at this
theorem EqE.str (x : Str) : EqE g n σ (.str x) (.str x) := fun A s v u _ _ iv iu => by
 obtain ⟨t, rfl⟩ := B5 iv; obtain ⟨t', rfl⟩ := B5 iu
 have := EqAt.str_str (A := A) (s := s) x t x t'
 rwa [beq_self_eq_true] at this
theorem EqE.bool (b : Bool) : EqE g n σ (.bool b) (.bool b) := fun A s v u _ _ iv iu => by
 rw [HK iv, HK iu]; exact EqAt.same _
theorem EqS.length {ds es : List V} (x : EqS g n σ ds es) : ds.length = es.length := by
 induction x with
 | nil => rfl
 | cons _ _ ih => simp [ih]
theorem EqS.at {ds es : List V} (x : EqS g n σ ds es) {A : Around} {s : Shared} (hu : A.units + n < cLine) (S : SGd g σ (Hp s)) : ∀ {vs us : List Value}, IsS s.heap vs ds → IsS s.heap us es → ∀ j (h1 : j < vs.length) (h2 : j < us.length), EqAt A s vs[j] us[j] true := by
 induction x with
 | nil => intro vs us i1 i2 j h1 h2; cases i1; exact absurd h1 (Nat.not_lt_zero _)
 | cons e _ ih =>
  intro vs us i1 i2 j h1 h2
  cases i1 with | cons a1 b1 =>
  cases i2 with | cons a2 b2 =>
  cases j with
  | zero => exact e A s _ _ hu S a1 a2
  | succ j => exact ih b1 b2 j (by simpa using h1) (by simpa using h2)
theorem EqS.map_int : ∀ xs : List Int, EqS g n σ (xs.map V.int) (xs.map V.int)
 | [] => .nil
 | x :: xs => .cons (.int x) (EqS.map_int xs)
theorem EqS.map_str : ∀ xs : List Str, EqS g n σ (xs.map V.str) (xs.map V.str)
 | [] => .nil
 | x :: xs => .cons (.str x) (EqS.map_str xs)
theorem EY (n : Nat) : (List.range n).all (fun _ => true) = true := List.all_eq_true.mpr fun _ _ => rfl
theorem EqE.tup {ds : List V} (x : EqS g n σ ds ds) : EqE g (n + 1) σ (.tup ds) (.tup ds) := fun A s v u hu S iv iu => by
 obtain ⟨a, vs, rfl, ha, is⟩ := BP iv
 obtain ⟨b, us, rfl, hb, js⟩ := BP iu
 by_cases hab : a = b
 ·subst hab; exact EqAt.same _
 ·refine EqAt.of_refs hab ?_
  have := RcAt.tuples (A := A) (s := s) (e := fun _ => true) ha hb (by omega) fun j h1 h2 => x.at (A := A.in1) (by rw [Around.in1_units]; omega) S is js j (by simpa using h1) (by simpa using h2)
  rw [EY, Bool.true_and] at this
  have hl : (vs.toArray.size == us.toArray.size) = true := by simp [is.length, js.length]
  rwa [hl] at this
theorem EqS.map_pr : ∀ xs : List (Str × Str), EqS g (n + 1) σ (xs.map prV) (xs.map prV)
 | [] => .nil
 | x :: xs => .cons (EqE.tup (.cons (.str _) (.cons (.str _) .nil))) (EqS.map_pr xs)
theorem EqE.list {l b : Addr} {xs ys : List V} (hl : (l, Cell.list xs) ∈ σ) (hb : (b, Cell.list ys) ∈ σ) (x : EqS g n σ xs ys) : EqE g (n + 1) σ (.ref l) (.ref b) := fun A s v u hu S iv iu => by
 rw [Ae iv, Ae iu]
 obtain ⟨vs, _, _, hl', is⟩ := Aj S hl
 obtain ⟨us, _, _, hb', js⟩ := Aj S hb
 by_cases hab : l = b
 ·subst hab; exact EqAt.same _
 ·refine EqAt.of_refs hab ?_
  have := RcAt.lists (A := A) (s := s) (e := fun _ => true) hl' hb' (by simp [is.length, js.length, x.length]) (by omega) fun j h1 h2 => x.at (A := A.in1) (by rw [Around.in1_units]; omega) S is js j (by simpa using h1) (by simpa using h2)
  rwa [EY] at this
theorem Vals.hits {A : Around} {s : Shared} {kb : List (Int × Value)} {es : List (Int × Int)} (vb : Vals s.heap kb (es.map dcV)) (hnd : (es.map (·.1)).Nodup) : ∀ {ka : List (Int × Value)} {fs : List (Int × Int)}, Vals s.heap ka (fs.map dcV) → (∀ p ∈ fs, p ∈ es) → KeqHits A s kb ka true
 | _, [], .nil, _ => .nil
 | _, (i, j) :: fs, .cons iv r, h => by
  have hm := h (i, j) (.head _)
  have hf : ((es.map dcV).find? (fun e => decide (e.1 = i))).map (·.2) = some (V.int j) := by
   clear vb h
   induction es with
   | nil => cases hm
   | cons e es ih =>
    rw [List.map_cons, List.nodup_cons] at hnd
    by_cases q : e.1 = i
    ·have : e = (i, j) := by
      rcases List.mem_cons.mp hm with q' | q'
      ·exact q'.symm
      ·exact absurd (List.mem_map_of_mem (f := (·.1)) q') (q ▸ hnd.1)
     subst this; simp [dcV]
    ·have q' : ¬ (dcV e).1 = i := q
     rw [List.map_cons, List.find?_cons]
     simp only [q', decide_false]
     refine ih hnd.2 ?_
     rcases List.mem_cons.mp hm with q'' | q''
     ·exact absurd (by rw [← q'']) q
     ·exact q''
  obtain ⟨y, hy, iy⟩ := (vb.lookup i).2 _ hf
  obtain ⟨t, rfl⟩ := Ab iv
  obtain ⟨t', rfl⟩ := Ab iy
  have e := EqAt.int_int (A := A) (s := s) j t j t'
  have := KeqHits.hit hy e (Vals.hits vb hnd r fun p hp => h p (.tail _ hp))
  rwa [beq_self_eq_true] at this
theorem pairs_any {p p' : Program} {w w' : World} {es : List DictEntry} {kvs : List (Int × Value)} (x : Pairs (intKind p w) es kvs) : Pairs (intKind p' w') es kvs := by
 induction x with
 | nil => exact .nil
 | cons a b _ ih => exact .cons a b ih
theorem Ig {p p' : Program} {w w' : World} {h : Heap} {a : Addr} {kvs : List (Int × Value)} (x : h.DictOf (intKind p w) a kvs) : h.DictOf (intKind p' w') a kvs := by
 obtain ⟨o, es, ep, e, hx, hd, hk, hp, hn⟩ := x
 exact ⟨o, es, ep, e, hx, hd, hk, pairs_any hp, hn⟩
theorem EqE.idict {l b : Addr} {es : List (Int × Int)} (hl : (l, Cell.idict (es.map dcV)) ∈ σ) (hb : (b, Cell.idict (es.map dcV)) ∈ σ) : EqE g n σ (.ref l) (.ref b) := fun A s v u hu S iv iu => by
 rw [Ae iv, Ae iu]
 obtain ⟨ka, ha, va⟩ := S.cells _ hl
 obtain ⟨kb, hb', vb⟩ := S.cells _ hb
 by_cases hab : l = b
 ·subst hab; exact EqAt.same _
 ·refine EqAt.of_refs hab fun prog w E Q h => ?_
  have hlen : ka.length = kb.length := va.length.trans vb.length.symm
  have hnd : (es.map (·.1)).Nodup := by
   obtain ⟨_, _, _, _, _, _, _, _, nd⟩ := hb'
   rw [vb.keys, List.map_map] at nd
   exact nd
  have ha' : s.heap.DictOf (intKind prog w) l ka := Ig ha
  have hb'' : s.heap.DictOf (intKind prog w) b kb := Ig hb'
  refine keq_eq (Hc S hl) (Hc S hb) ha' hb'' (by omega) (fun _ => Vals.hits vb hnd va fun p hp => hp) ?_
  rw [hlen, beq_self_eq_true]
  exact h
theorem O_eqL {l b : Addr} {xs ys : List V} (hl : (l, Cell.list xs) ∈ σ) (hb : (b, Cell.list ys) ∈ σ) (x : EqS g n σ xs ys) (hn : n ≤ 20) (q : Q (.bool true) σ) : O2 g k Is σ (compareOp .Eq) (.ref l) (.ref b) Q := fun A r s v u S i j => by
 rw [Ae i, Ae j]
 obtain ⟨vs, _, e, hl', is⟩ := Aj S hl
 obtain ⟨us, _, e2, hb', js⟩ := Aj S hb
 have hu := r.units
 refine eq_listAt (e := fun _ => true) hl' hb' (by simp [is.length, js.length, x.length]) r.unit (fun j h1 h2 => x.at (A := A.in1) (by rw [Around.in1_units]; omega) S is js j (by simpa using h1) (by simpa using h2)) ?_
 rw [EY]
 exact AM (.bool _) S q
theorem O_neL {l b : Addr} {xs ys : List V} (hl : (l, Cell.list xs) ∈ σ) (hb : (b, Cell.list ys) ∈ σ) (x : EqS g n σ xs ys) (hn : n ≤ 20) (q : Q (.bool false) σ) : O2 g k Is σ (compareOp .NotEq) (.ref l) (.ref b) Q := fun A r s v u S i j => by
 rw [Ae i, Ae j]
 obtain ⟨vs, _, e, hl', is⟩ := Aj S hl
 obtain ⟨us, _, e2, hb', js⟩ := Aj S hb
 have hu := r.units
 refine RcNeAt.lists (e := fun _ => true) hl' hb' (by simp [is.length, js.length, x.length]) r.unit (fun j h1 h2 => x.at (A := A.in1) (by rw [Around.in1_units]; omega) S is js j (by simpa using h1) (by simpa using h2)) g.prog g.w NoE _ ?_
 rw [EY]
 exact AM (.bool _) S q
theorem IsS.ints {h : Heap} : ∀ {vs : List Value} {ns : List Int}, IsS h vs (ns.map V.int) → IntsAre vs ns
 | _, [], .nil => .nil
 | _, n :: ns, .cons a b => by
  obtain ⟨t, rfl⟩ := Ab a
  exact .cons n t (IsS.ints b)
theorem Cl_max {l : Addr} {ns : List Int} (hm : (l, Cell.list (ns.map V.int)) ∈ σ) (hne : 0 < ns.length) (q : ∀ M, M ∈ ns → (∀ a ∈ ns, a ≤ M) → Q (.int M) σ) : Cl g k (.builtin "max") [.ref l] σ Q := fun A r s vs S is => by
 obtain ⟨v, rfl, iv⟩ := G0 is
 rw [Ae iv]
 obtain ⟨ws, n, e, hl, ws'⟩ := Aj S hm
 have hi := ws'.ints
 obtain ⟨xs, ex⟩ := hi.allInts.items
 have hns : ns = xs.toList.map (·.1) := by rw [← hi.numsOf, ← nums_intItems, ← ex]
 have hsz : 0 < xs.size := by
  have h3 := hne; rw [hns, List.length_map, Array.length_toList] at h3; exact h3
 rw [ex] at hl
 refine max_intList r.handled hl hsz fun v h' tk hv hk => ?_
 obtain ⟨t, rfl⟩ := intItems_at hv
 obtain ⟨h1, h2⟩ := argBest_gt (numAt xs) (xs.size - 1)
 refine ⟨.int _, σ, .int _ _, S.grow hk, Keeps.of_all hk, q _ ?_ fun a ha => ?_⟩
 ·rw [numAt_eq, hns]; exact getD_mem (by rw [List.length_map, Array.length_toList]; omega)
 ·rw [hns] at ha
  obtain ⟨j, hj, rfl⟩ := mem_getD ha
  rw [List.length_map, Array.length_toList] at hj
  rw [← numAt_eq]; exact h2 j (by omega)
end
end Mine
namespace Mine
theorem SGd.turn2 {g : G} {σ : Store} {h : HS} {h' : Heap} {a b : Addr} {c1 c2 c1' c2' : Cell} (S : SGd g ((a, c1) :: (b, c2) :: σ) h) (hs : ∀ x o, x ≠ a → x ≠ b → h.get? x = some o → h'.get? x = some o)
  (h1 : Keeps h.toHeap h' → CellIs g h' a c1') (h2 : Keeps h.toHeap h' → CellIs g h' b c2') : SGd g ((a, c1') :: (b, c2') :: σ) (h.at h') ∧ Keeps h.toHeap h' := by
 have hk : Keeps h.toHeap h' := fun x vs n e => by
  by_cases q : x = a
  ·subst q
   obtain ⟨o, e', hne⟩ := (S.cells _ (.head _)).obj
   rw [e] at e'
   exact absurd (Option.some.inj e').symm (hne vs n)
  ·by_cases q2 : x = b
   ·subst q2
    obtain ⟨o, e', hne⟩ := (S.cells _ (.tail _ (.head _))).obj
    rw [e] at e'
    exact absurd (Option.some.inj e').symm (hne vs n)
   ·exact hs x _ q q2 e
 obtain ⟨na, nd⟩ := List.nodup_cons.mp S.nodup
 obtain ⟨nb, nd2⟩ := List.nodup_cons.mp nd
 refine ⟨⟨fun p hp => ?_, by simpa using S.nodup, fun x o e => ?_, fun p hp => ?_, fun p hp => ?_, S.osq, S.geq⟩, hk⟩
 ·rcases List.mem_cons.mp hp with rfl | hp
  ·exact h1 hk
  ·rcases List.mem_cons.mp hp with rfl | hp
   ·exact h2 hk
   ·have n1 : p.1 ≠ a := fun e => na (e ▸ List.mem_map_of_mem (f := (·.1)) (List.mem_cons_of_mem _ hp))
    have n2 : p.1 ≠ b := fun e => nb (e ▸ List.mem_map_of_mem (f := (·.1)) hp)
    obtain ⟨o, e, _⟩ := (S.cells p (.tail _ (.tail _ hp))).obj
    exact (S.cells p (.tail _ (.tail _ hp))).move ((hs _ _ n1 n2 e).trans e.symm) hk
 ·refine hs x o (fun q => ?_) (fun q => ?_) (S.keep x o e)
  ·have := S.fresh (a, c1) (.head _); rw [← q, e] at this; cases this
  ·have := S.fresh (b, c2) (.tail _ (.head _)); rw [← q, e] at this; cases this
 ·rcases List.mem_cons.mp hp with rfl | hp
  ·exact S.fresh (a, c1) (.head _)
  ·rcases List.mem_cons.mp hp with rfl | hp
   ·exact S.fresh (b, c2) (.tail _ (.head _))
   ·exact S.fresh p (.tail _ (.tail _ hp))
 ·rcases List.mem_cons.mp hp with rfl | hp
  ·exact S.big (a, c1) (.head _)
  ·rcases List.mem_cons.mp hp with rfl | hp
   ·exact S.big (b, c2) (.tail _ (.head _))
   ·exact S.big p (.tail _ (.tail _ hp))
section
variable {g : G} {k : Nat} {σ : Store} {env : Env} {L : Addr}
theorem WX_ForT {target iter body pos} {Q : Fl → Store → Prop} (Inv : ∀ it, ItT g it target → Nat → Store → Loc → Store → Prop)
  (hi : WE g k σ env iter fun d σ' => ∃ R m m' τ, σ' = Fm R L m' τ ∧ Sub m m' ∧ IterT g k target σ' d fun it I => Inv it I 0 R m τ)
  (turn : ∀ it I i R m τ, i < ItT.n (g := g) (it := it) (target := target) I → Inv it I i R m τ → O1 g k EqR (Fm R L m (I.own (i + 1) ++ τ)) (assign target env) (I.item i) (BodyK g k env body (ForBT L Inv I i Q)))
  (src : ∀ it I i R m τ, Inv it I i R m τ → i ≤ ItT.n (g := g) (it := it) (target := target) I ∧ ∀ m', I.src (Fm R L m' τ))
  (fin : ∀ it I R m m' τ, Inv it I (ItT.n (g := g) (it := it) (target := target) I) R m τ → Sub m m' → Q .next (Fm R L m' τ))
  (hs : ∀ x, foldedSetIterable iter env x = pure x := by intro _; rfl) : WX g k σ env (.For target iter body [] pos) Q := II Inv (W.mono hi fun d σ' ⟨R, m, m', τ, e, s, q⟩ => ⟨R, m, m', τ, s, e ▸ q⟩) turn src fin hs
end
section
variable {g : G} {k : Nat} {σ : Store} {env : Env} {Q : V → Store → Prop} {R τ : Store} {L : Addr} {m : Loc}
theorem letGo_tupiter {prog : Program} {w : World} {A : Around} {E : Value → Shared → Prop} {s : Shared} {elts : List Expr} {x1} {pos : Pos} {I t T : Addr} {i : Nat} {P : Unit → Shared → Prop} (hit : IsTupIter s.heap I t i) (hQ : P () s) :
  wpAny (model prog w) A (letOwnedTupleGo (.Tuple elts x1 pos) (.ref I) (.ref T)) P E s := by
 obtain ⟨o, ho, hc, hd⟩ := hit
 unfold letOwnedTupleGo
 refine wpAny_bind (wpAny_load ho ?_)
 rw [hc, hd]
 show wpAny _ A (if (["enumerate", "zip", "dict_itemiterator", "dict_reverseitemiterator", "odict_iterator", "itertools.zip_longest", "itertools.pairwise"].contains "tuple_iterator" &&
   (#[.ref t, .int i 0] : Array Value)[0]? == some (rawInt T)) = true then _ else _) P E s
 rw [if_neg (by
  intro h
  rw [show (["enumerate", "zip", "dict_itemiterator", "dict_reverseitemiterator", "odict_iterator", "itertools.zip_longest", "itertools.pairwise"].contains "tuple_iterator") = false from by decide, Bool.false_and] at h
  cases h)]
 exact wpAny_pure hQ
noncomputable def itTT (g : G) (it t : Addr) (elts : List Expr) (x1) (pos : Pos) (dss : List (List V)) : ItT g it (.Tuple elts x1 pos) where
 n := dss.length
 item i := .tup (dss.getD i [])
 own i := [(it, .pr fun o => titP t i o)]
 src σ := True
 know h := Is h (.ref t) (.tup (dss.map V.tup))
 mono _ _ kp x := x.mono kp
 next i hi A σ s hh hs kn S := by
  obtain ⟨o, ho, ⟨hc, hd⟩, _⟩ := S.cells _ (.head _)
  obtain ⟨a, vs, q, ht, is⟩ := BP kn
  cases q
  obtain ⟨v, hv, iv⟩ := is.get i (.tup (dss.getD i [])) (by rw [List.getElem?_map, List.getElem?_eq_getElem hi, List.getD_eq_getElem?_getD, List.getElem?_eq_getElem hi]; rfl)
  refine next_tuple_item ⟨o, ho, hc, hd⟩ ht (x := v) (by simpa using hv) fun h' hit hsb => ?_
  obtain ⟨o', ho', hc', hd'⟩ := hit
  obtain ⟨S', kp⟩ := S.turn (c' := .pr (titP t (i + 1))) .head (fun b o hb e => (hsb.2 b hb).trans e) fun kp => ⟨o', ho', ⟨hc', hd'⟩, fun _ _ q => by subst q; cases hd'⟩
  obtain ⟨T, _, rfl, _⟩ := BP iv
  exact ⟨_, rfl, letGo_tupiter (s := { s with heap := h' }) ⟨o', ho', hc', hd'⟩ ⟨iv.mono kp, S', kp⟩⟩
 stop A σ s hh hs kn S := by
  obtain ⟨o, ho, ⟨hc, hd⟩, _⟩ := S.cells _ (.head _)
  obtain ⟨a, vs, q, ht, is⟩ := BP kn
  cases q
  refine next_tuple_end hh ⟨o, ho, hc, hd⟩ ht (by rw [List.getElem?_toArray]; exact List.getElem?_eq_none (by rw [is.length, List.length_map]; exact Nat.le_refl _)) fun h' he => ?_
  obtain ⟨S', kp⟩ := S.drop (σ := σ) he
  exact ⟨rfl, S', kp⟩
theorem IterT_tup {elts : List Expr} {x1} {pos : Pos} {dss : List (List V)} {Q : ∀ it, ItT g it (.Tuple elts x1 pos) → Prop} (q : ∀ it t, Q it (itTT g it t elts x1 pos dss)) : IterT g k (.Tuple elts x1 pos) σ (.tup (dss.map V.tup)) Q := fun A r s v S iv => by
 obtain ⟨a, vs, rfl, ht, is⟩ := BP iv
 refine iter_tuple ht ⟨_, itTT g _ a elts x1 pos dss, rfl, ?_, Keeps.push _ _, iv.mono (Keeps.push _ _), q _ _⟩
 exact S.alloc (σ := []) (τ := σ) (fun _ _ e => Heap.get?_push_of_some _ e) (Nat.le_refl _) ⟨_, Heap.get?_push_size _ rfl, ⟨rfl, rfl⟩, fun _ _ q => absurd (congrArg Obj.cls q) (by simp)⟩
noncomputable def enumP (it : Addr) (i : Nat) (o : Obj) : Prop := ∃ old, o = { cls := .type "enumerate", dict := none, data := .fields #[.none, .bool false, .ref it, rawInt i, .none, old], slots := #[] }
noncomputable def itE (g : G) (e it l : Addr) (elts : List Expr) (x1) (pos : Pos) (ds : List V) : ItT g e (.Tuple elts x1 pos) where
 n := ds.length
 item i := .tup [.int i, ds.getD i .none]
 own i := [(e, .pr (enumP it i)), (it, .pr (litP l i))]
 src σ := (l, .list ds) ∈ σ
 know _ := True
 mono _ _ _ x := x
 next i hi A σ s hh hs kn S := by
  obtain ⟨oe, he, ⟨old, rfl⟩, _⟩ := S.cells _ (.head _)
  obtain ⟨o, ho, ⟨hc, hd⟩, _⟩ := S.cells (it, _) (.tail _ (.head _))
  obtain ⟨vs, n, el, hl, is⟩ := Aj S (List.mem_append_right _ hs)
  obtain ⟨v, hv, iv⟩ := is.get _ _ (G1 hi)
  have hne : e ≠ it := fun q => by
   have := (List.nodup_cons.mp S.nodup).1
   exact this (q ▸ .head _)
  refine wpAny_pyNext_enum_item he ⟨o, ho, hc, hd⟩ hl (x := v) (by simpa using hv) hne fun h' ho' hit' ht hz hk => ?_
  refine ⟨_, rfl, wpAny_letOwnedTupleGo_enum (s := { s with heap := h', toks := s.toks + 1 }) ho' fun h'' he'' hsb => ?_⟩
  have hlt : e < s.heap.objs.size := Heap.lt_size he
  have hlt2 : it < s.heap.objs.size := Heap.lt_size ho
  have hk2 : ∀ x o, x ≠ e → x ≠ it → s.heap.get? x = some o → h''.get? x = some o := fun x o q1 q2 ex => (hsb.2 x q1).trans (hk x o q1 q2 ex)
  obtain ⟨S', kp⟩ := SGd.turn2 (c1' := .pr (enumP it (i + 1))) (c2' := .pr (litP l (i + 1))) S hk2 (fun kp => ⟨_, he'', ⟨v, rfl⟩, fun _ _ q => absurd (congrArg Obj.cls q) (by simp)⟩)
   (fun kp => by obtain ⟨o2, ho2, hc2, hd2⟩ := hit'; exact ⟨o2, (hsb.2 it (Ne.symm hne)).trans ho2, ⟨hc2, hd2⟩, fun _ _ q => by subst q; cases hd2⟩)
  refine ⟨.tup (vs := [.int i s.toks, v]) (n := 0) ((hsb.2 _ (Nat.ne_of_gt hlt)).trans ht) (.cons (.int _ _) (.cons (iv.mono kp) .nil)), S', kp⟩
 stop A σ s hh hs kn S := by
  obtain ⟨oe, he, ⟨old, rfl⟩, _⟩ := S.cells _ (.head _)
  obtain ⟨o, ho, ⟨hc, hd⟩, _⟩ := S.cells (it, _) (.tail _ (.head _))
  obtain ⟨vs, n, el, hl, is⟩ := Aj S (List.mem_append_right _ hs)
  refine wpAny_pyNext_enum_end hh he ⟨o, ho, hc, hd⟩ hl (by rw [List.getElem?_toArray]; exact List.getElem?_eq_none (by rw [is.length]; exact Nat.le_refl _)) fun h' hk => ?_
  have S0 : SGd g ((it, .pr (litP l ds.length)) :: σ) (Hp s) := S.sublist (List.sublist_cons_self _ _)
  obtain ⟨S', kp⟩ := S0.drop (σ := σ) hk
  exact ⟨rfl, S', kp⟩
theorem Cl_enum {l : Addr} {ds : List V} (hm : (l, Cell.list ds) ∈ Fm R L m τ) (q : ∀ e it, Q (.ref e) (Fm R L m ((e, .pr (enumP it 0)) :: (it, .pr (litP l 0)) :: τ))) : Cl g k (.type "enumerate") [.ref l] (Fm R L m τ) Q := fun A r s vs S is => by
 obtain ⟨v, rfl, iv⟩ := G0 is
 rw [Ae iv]
 obtain ⟨ws, n, e, hl, _⟩ := Aj S hm
 refine call_enumerate_list hl fun h' he hit hz hk => ?_
 have S' : SGd g ((R ++ [(L, .ns m)]) ++ τ) (Hp s) := by simpa using S
 have := S'.allocs (h' := h') hk [(s.heap.objs.size + 1, .pr (enumP s.heap.objs.size 0)), (s.heap.objs.size, .pr (litP l 0))] ?_ ?_ ?_
 ·exact ⟨.ref _, _, .ref _, by simpa using this, Keeps.of_all hk, q _ _⟩
 ·intro p hp
  rcases List.mem_cons.mp hp with rfl | hp
  ·exact Nat.le_succ _
  ·rw [List.mem_singleton.mp hp]; exact Nat.le_refl _
 ·simp
 ·intro p hp
  rcases List.mem_cons.mp hp with rfl | hp
  ·exact ⟨_, he, ⟨_, rfl⟩, fun _ _ q => absurd (congrArg Obj.cls q) (by simp)⟩
  ·rw [List.mem_singleton.mp hp]
   obtain ⟨o, ho, hc, hd⟩ := hit
   exact ⟨o, ho, ⟨hc, hd⟩, fun _ _ q => by subst q; cases hd⟩
noncomputable def dP (g : G) (es : List (Str × V)) (ep : Nat) (o : Obj) : Prop := ∃ kvs, (∀ (h : Heap) a, h.get? a = some o → h.DictAt (strKind g.prog g.w) a kvs ep) ∧ ∀ h, Vals h kvs es
noncomputable def V.flat : V → Bool
 | .int _ => true
 | .ref _ => true
 | _ => false
theorem Vals.flat {h h' : Heap} {kvs : List (Str × Value)} {es : List (Str × V)} (x : Vals h kvs es) (hf : es.all (·.2.flat) = true) : Vals h' kvs es := by
 induction x with
 | nil => exact .nil
 | @cons k v d es ds i _ ih =>
  simp only [List.all_cons, Bool.and_eq_true] at hf
  refine .cons ?_ (ih hf.2)
  cases i <;> first | exact .int _ _ | exact .ref _ | (exact absurd hf.1 (by simp [V.flat]))
theorem W.freeze {α β : Type} {rel : Heap → α → β → Prop} {t : Sem α} {Q : β → Store → Prop} {pre post : Store} {d : Addr} {es : List (Str × V)} (hf : es.all (·.2.flat) = true) (h : ∀ ep, W g k rel (pre ++ (d, .pr (dP g es ep)) :: post) t Q) :
  W g k rel (pre ++ (d, .sdict es) :: post) t Q := fun A r s S => by
 obtain ⟨kvs, ⟨o, en, ep, e, hx, hd, hkk, hp, hn⟩, vs⟩ := S.cells (d, .sdict es) (List.mem_append_right _ (.head _))
 refine h ep A r s ⟨fun p hp' => ?_, by simpa using S.nodup, S.keep, fun p hp' => ?_, fun p hp' => ?_, S.osq, S.geq⟩
 ·rcases List.mem_append.mp hp' with q | q
  ·exact S.cells p (List.mem_append_left _ q)
  ·rcases List.mem_cons.mp q with rfl | q
   ·exact ⟨o, e, ⟨kvs, fun h a e' => ⟨o, en, e', hx, hd, hkk, hp, hn⟩, fun h => vs.flat hf⟩, fun _ _ q => by subst q; cases hd⟩
   ·exact S.cells p (List.mem_append_right _ (.tail _ q))
 ·rcases List.mem_append.mp hp' with q | q
  ·exact S.fresh p (List.mem_append_left _ q)
  ·rcases List.mem_cons.mp q with rfl | q
   ·exact S.fresh (d, .sdict es) (List.mem_append_right _ (.head _))
   ·exact S.fresh p (List.mem_append_right _ (.tail _ q))
 ·rcases List.mem_append.mp hp' with q | q
  ·exact S.big p (List.mem_append_left _ q)
  ·rcases List.mem_cons.mp q with rfl | q
   ·exact S.big (d, .sdict es) (List.mem_append_right _ (.head _))
   ·exact S.big p (List.mem_append_right _ (.tail _ q))
theorem SGd.thaw {pre post : Store} {d : Addr} {es : List (Str × V)} {ep : Nat} {h : HS} (S : SGd g (pre ++ (d, .pr (dP g es ep)) :: post) h) : SGd g (pre ++ (d, .sdict es) :: post) h := by
 obtain ⟨o, e, ⟨kvs, hd, hv⟩, _⟩ := S.cells (d, .pr (dP g es ep)) (List.mem_append_right _ (.head _))
 refine ⟨fun p hp' => ?_, by simpa using S.nodup, S.keep, fun p hp' => ?_, fun p hp' => ?_, S.osq, S.geq⟩
 ·rcases List.mem_append.mp hp' with q | q
  ·exact S.cells p (List.mem_append_left _ q)
  ·rcases List.mem_cons.mp q with rfl | q
   ·exact ⟨kvs, (hd h.toHeap d e).dictOf, hv h.toHeap⟩
   ·exact S.cells p (List.mem_append_right _ (.tail _ q))
 ·rcases List.mem_append.mp hp' with q | q
  ·exact S.fresh p (List.mem_append_left _ q)
  ·rcases List.mem_cons.mp q with rfl | q
   ·exact S.fresh (d, .pr (dP g es ep)) (List.mem_append_right _ (.head _))
   ·exact S.fresh p (List.mem_append_right _ (.tail _ q))
 ·rcases List.mem_append.mp hp' with q | q
  ·exact S.big p (List.mem_append_left _ q)
  ·rcases List.mem_cons.mp q with rfl | q
   ·exact S.big (d, .pr (dP g es ep)) (List.mem_append_right _ (.head _))
   ·exact S.big p (List.mem_append_right _ (.tail _ q))
theorem O_itemDP {value slice : Expr} {d : Addr} {es : List (Str × V)} {ep : Nat} {i : Str} {e : V} (m : (d, Cell.pr (dP g es ep)) ∈ σ) (he : atS es i = some e) (q : Q e σ)
  (hs : ∀ o v, subscripted slice false o v = operate [o, v] (getItem o v) := by intro _ _; with_unfolding_all rfl) : O2 g k Is σ (subscriptTail value slice) (.ref d) (.str i) Q := fun A r s v u S iv ju => by
 rw [Ae iv]; obtain ⟨t, rfl⟩ := B5 ju
 obtain ⟨o, ho, ⟨kvs, hd, vals⟩, _⟩ := S.cells _ m
 have hd := (hd s.heap d ho).dictOf
 obtain ⟨w, hw, iw⟩ := ((vals s.heap).lookup i).2 e he
 exact tail_any hd.typeIs slot_dict_getitem.lookup (wpAny_getItem_of (knd := strKind g.prog g.w) (strKind_is _ _ i t) hd.mapOf hw (AM (s := { s with toks := s.toks + 1 }) iw S q)) (hs _ _)
noncomputable def keyP (d : Addr) (i n ep : Nat) (o : Obj) : Prop := o.cls = .type "dict_keyiterator" ∧ o.data = .fields #[.ref d, .int i 0, .int n 0, .int ep 0]
noncomputable def itK (g : G) (it d : Addr) (es : List (Str × V)) (ep : Nat) : It g it where
 n := es.length
 item i := .str (es.getD i (zs "", .none)).1
 own i := [(it, .pr (keyP d i es.length ep))]
 src σ := (d, .pr (dP g es ep)) ∈ σ
 know _ := True
 mono _ _ _ x := x
 next i hi A σ s hh hs kn S := by
  obtain ⟨o, ho, ⟨hc, hd⟩, _⟩ := S.cells _ (.head _)
  obtain ⟨od, hod, ⟨kvs, hda, vals⟩, _⟩ := S.cells (d, .pr (dP g es ep)) (List.mem_append_right _ hs)
  have hv := vals s.heap
  have hlen : kvs.length = es.length := hv.length
  have hk : kvs[i]? = some (kvs[i]'(by omega)) := List.getElem?_eq_getElem (by omega)
  have hkey : (kvs[i]'(by omega)).1 = (es.getD i (zs "", .none)).1 := by
   have e := congrArg (fun l => l[i]?) hv.keys
   simp only [List.getElem?_map, hk, List.getElem?_eq_getElem hi, Option.map_some, Option.some.injEq] at e
   rw [e, List.getD_eq_getElem?_getD, List.getElem?_eq_getElem hi]; rfl
  refine wpAny_pyNext_dict_item (knd := strKind g.prog g.w) ⟨o, ho, hc, by rw [hlen]; exact hd⟩ (hda s.heap d hod) (k := (kvs[i]'(by omega)).1) (v := (kvs[i]'(by omega)).2) (by rw [hk]) fun key h' hkk hit hsb => ?_
  obtain ⟨o', ho', hc', hd'⟩ := hit
  rw [hlen] at hd'
  obtain ⟨S', kp⟩ := S.turn (c' := .pr (keyP d (i + 1) es.length ep)) .head (fun b o hb e => hsb.extBut b o hb e) fun kp => ⟨o', ho', ⟨hc', hd'⟩, fun _ _ q => by subst q; cases hd'⟩
  obtain ⟨t, rfl⟩ := Value.isStrOf_shape hkk
  rw [hkey]
  exact ⟨_, rfl, .str _ _, S', kp⟩
 stop A σ s hh hs kn S := by
  obtain ⟨o, ho, ⟨hc, hd⟩, _⟩ := S.cells _ (.head _)
  obtain ⟨od, hod, ⟨kvs, hda, vals⟩, _⟩ := S.cells (d, .pr (dP g es ep)) (List.mem_append_right _ hs)
  have hlen : kvs.length = es.length := (vals s.heap).length
  refine wpAny_pyNext_dict_end (knd := strKind g.prog g.w) (i := es.length) hh ⟨o, ho, hc, by rw [hlen]; exact hd⟩ (hda s.heap d hod) (List.getElem?_eq_none (by rw [hlen]; exact Nat.le_refl _)) fun h' he => ?_
  obtain ⟨S', kp⟩ := S.drop (σ := σ) he
  exact ⟨rfl, S', kp⟩
theorem itK_self (it d : Addr) (es : List (Str × V)) (ep : Nat) : Selfy (itK g it d es ep) := fun i A σ s E P S p => by
 obtain ⟨o, ho, ⟨hc, hd⟩, _⟩ := S.cells _ (.head _)
 exact wpAny_pyIter_keyiter ⟨o, ho, hc, hd⟩ p
theorem IterO_keys {d : Addr} {es : List (Str × V)} {ep : Nat} {Q : ∀ it, It g it → Prop} (hm : (d, Cell.pr (dP g es ep)) ∈ σ) (q : ∀ it, Q it (itK g it d es ep)) : IterO g k σ (.ref d) Q := fun A r s v S iv => by
 rw [Ae iv]
 obtain ⟨od, hod, ⟨kvs, hda, vals⟩, _⟩ := S.cells _ hm
 have hlen : kvs.length = es.length := (vals s.heap).length
 refine wpAny_pyIter_dict (knd := strKind g.prog g.w) (Hc S hm) (hda s.heap d hod) ⟨_, itK g _ d es ep, rfl, ?_, Keeps.push _ _, trivial, q _⟩
 exact S.alloc (σ := []) (τ := σ) (fun _ _ e => Heap.get?_push_of_some _ e) (Nat.le_refl _) ⟨_, Heap.get?_push_size _ rfl, ⟨rfl, by rw [hlen]; rfl⟩, fun _ _ q => absurd (congrArg Obj.cls q) (by simp)⟩
theorem comp_keys {elt : Expr} {x : Str} {scope : Scope} {cl : List (Str × Addr)} {d : Addr} {es : List (Str × V)} {ep : Nat} (hm : (d, Cell.pr (dP g es ep)) ∈ Fm R L m τ) (hz : es.length ≤ 1000)
  (turn : ∀ e ∈ es, ∀ C τ', WE g k (Fm (Fm R L m τ) C [(x, .str e.1)] τ') (compEnvC scope cl C env) elt fun d' σ' => d' = e.2 ∧ σ' = Fm (Fm R L m τ) C [(x, .str e.1)] τ')
  (q : ∀ a, Q (.ref a) (Fm R L m ((a, .list (es.map (·.2))) :: τ))) : Cg g k (Fm R L m τ) env elt x [] scope cl (.ref d) Q := by
 refine ⟨R, L, m, τ, rfl, fun it I i ds X => I = itK g it d es ep ∧ i ≤ es.length ∧ ds = (es.take i).map (·.2) ∧ X = [], IterO_keys hm fun it => ⟨⟨rfl, Nat.zero_le _, rfl, rfl⟩, itK_self _ _ _ _⟩, ?_, ?_, ?_⟩
 ·rintro it I i ds X ⟨rfl, hi, rfl, rfl⟩
  refine ⟨hi, ?_, fun C m' D => List.mem_append_left _ hm⟩
  rw [List.length_map, sizeLine_eq]
  have := List.length_take_le i es
  omega
 ·rintro it I i ds X C D hlt ⟨rfl, hi, rfl, rfl⟩
  have hlt' : i < es.length := hlt
  refine ifs0 (DY rfl ?_)
  have e : (itK g it d es ep).item i = .str es[i].1 := by show V.str (es.getD i (zs "", .none)).1 = _; rw [List.getD_eq_getElem?_getD, List.getElem?_eq_getElem hlt']; rfl
  rw [e]
  refine W.mono (turn es[i] (List.getElem_mem hlt') C _) fun d' σ' ⟨e1, e2⟩ => ?_
  subst e1; subst e2
  refine ⟨[], _, rfl, rfl, hlt', ?_, rfl⟩
  rw [List.take_add_one, List.getElem?_eq_getElem hlt', List.map_append]; rfl
 ·rintro it I ds X D ⟨rfl, hi, rfl, rfl⟩
  have := q D
  rw [show (es.take (itK g it d es ep).n).map (·.2) = es.map (·.2) by show (es.take es.length).map (·.2) = _; rw [List.take_length]]
  exact this
end
end Mine
namespace Mine
theorem is_pr {h : Heap} {v : Value} {p : Str × Str} (i : Is h v (prV p)) : ∃ a n t t', v = .ref a ∧ h.get? a = some (DP [.str p.1 t, .str p.2 t'] n) := by
 cases i with
 | tup e x =>
  cases x with | cons i1 x =>
  cases x with | cons i2 x =>
  cases x
  obtain ⟨t, rfl⟩ := B5 i1
  obtain ⟨t', rfl⟩ := B5 i2
  exact ⟨_, _, t, t', rfl, e⟩
theorem pr_inj {h : Heap} {v : Value} {p q : Str × Str} (i : Is h v (prV p)) (j : Is h v (prV q)) : p = q := by
 obtain ⟨a, n, t, t', rfl, e⟩ := is_pr i
 obtain ⟨b, n2, u, u', e', e2⟩ := is_pr j
 cases e'
 rw [e] at e2
 obtain ⟨p1, p2⟩ := p
 obtain ⟨q1, q2⟩ := q
 cases e2
 rfl
open Classical in
noncomputable def prIs (h : Heap) (x : Str × Str) (y : Value) : Bool := decide (Is h y (prV x))
theorem prIs_eq {h : Heap} {x p : Str × Str} {y : Value} (i : Is h y (prV p)) : prIs h x y = (p == x) := by
 unfold prIs
 by_cases q : p = x
 ·subst q; simp [i]
 ·have : ¬ Is h y (prV x) := fun j => q (pr_inj i j)
  simp [this, q]
theorem prIs_any {h : Heap} (x : Str × Str) : ∀ {vs : List Value} {ps : List (Str × Str)}, IsS h vs (ps.map prV) → vs.any (prIs h x) = ps.contains x
 | _, [], .nil => rfl
 | _, p :: ps, .cons i r => by rw [List.any_cons, List.contains_cons, prIs_any x r, prIs_eq i, show (p == x) = (x == p) from BEq.comm]
theorem eqAt_pr {A : Around} {s : Shared} {p x : Str × Str} {y z : Value} (hu : A.units < cLine) (i : Is s.heap y (prV p)) (j : Is s.heap z (prV x)) : EqAt A s y z (p == x) := by
 obtain ⟨a, n, t, t', rfl, e⟩ := is_pr i
 obtain ⟨b, n2, u, u', rfl, e2⟩ := is_pr j
 by_cases hab : a = b
 ·subst hab
  rw [pr_inj i j, beq_self_eq_true]; exact EqAt.same _
 ·refine EqAt.of_refs hab ?_
  have := RcAt.tuples (A := A) (s := s) (e := fun j => if j = 0 then p.1 == x.1 else p.2 == x.2) (items := #[.str p.1 t, .str p.2 t']) (items2 := #[.str x.1 u, .str x.2 u']) ⟨_, e, rfl, ⟨_, rfl⟩⟩ ⟨_, e2, rfl, ⟨_, rfl⟩⟩ hu fun j h1 h2 => by
   have : j = 0 ∨ j = 1 := by have : j < 2 := h1; omega
   rcases this with rfl | rfl
   ·exact EqAt.str_str _ _ _ _
   ·exact EqAt.str_str _ _ _ _
  have e3 : ((List.range (min (#[Value.str p.1 t, .str p.2 t'] : Array Value).size (#[Value.str x.1 u, .str x.2 u'] : Array Value).size)).all (fun j => if j = 0 then p.1 == x.1 else p.2 == x.2) && (#[Value.str p.1 t, .str p.2 t'] : Array Value).size == (#[Value.str x.1 u, .str x.2 u'] : Array Value).size) = (p == x) := by
   show ((p.1 == x.1) && ((p.2 == x.2) && true) && true) = (p == x)
   rw [Bool.and_true, Bool.and_true]; rfl
  rwa [e3] at this
section
variable {g : G} {k n : Nat} {σ : Store} {env : Env} {Q : V → Store → Prop} {R τ : Store} {L : Addr} {m : Loc}
theorem O_ninTP {x : Str × Str} {ps : List (Str × Str)} (q : Q (.bool (!ps.contains x)) σ) : O2 g k Is σ (compareOp .NotIn) (prV x) (.tup (ps.map prV)) Q := fun A r s v u S i j => by
 obtain ⟨a, vs, rfl, ht, is⟩ := BP j
 refine notIn_tupleAt (prIs s.heap x) ht (fun y hy => ?_) ?_
 ·obtain ⟨d, hd, iy⟩ := is.mem y (by simpa using hy)
  obtain ⟨p, _, rfl⟩ := List.mem_map.mp hd
  rw [prIs_eq iy]
  have hu := r.units
  exact eqAt_pr (by rw [Around.in1_units]; omega) iy i
 ·rw [List.any_toArray, prIs_any x is]
  exact AM (.bool _) S q
end
end Mine
namespace Mine
structure DA where
 due : Addr
 op : Addr
 li : Addr
 names : Addr
 spaces : Addr
 attrs : Addr
 parents : Addr
 children : Addr
 contents : Addr
 owners : Addr
 errors : Addr
 kinds : Addr
noncomputable def BY (D : DA) (t : St) : List (Str × V) := [
 ((zs "open"), .ref D.op),
 ((zs "list"), .ref D.li),
 ((zs "names"), .ref D.names),
 ((zs "spaces"), .ref D.spaces),
 ((zs "attrs"), .ref D.attrs),
 ((zs "parents"), .ref D.parents),
 ((zs "children"), .ref D.children),
 ((zs "contents"), .ref D.contents),
 ((zs "owners"), .ref D.owners),
 ((zs "errors"), .ref D.errors),
 ((zs "form"), .int t.form),
 ((zs "kinds"), .ref D.kinds)]
noncomputable def Dy (D : DA) (t : St) : Store := [
 (D.due, .sdict (BY D t)),
 (D.op, .list (t.opn.map V.int)),
 (D.li, .list (t.fmt.map V.int)),
 (D.names, .list (t.names.map V.str)),
 (D.spaces, .list (t.spaces.map V.str)),
 (D.attrs, .list (t.aA.map V.ref)),
 (D.parents, .list (t.parents.map V.int)),
 (D.children, .list (t.cA.map V.ref)),
 (D.contents, .idict (t.contents.map dcV)),
 (D.owners, .idict (t.owners.map dcV)),
 (D.errors, .list (t.errors.map prV)),
 (D.kinds, .list (t.kinds.map V.str))]
noncomputable def AS (D : DA) (t : St) : Store := Dy D t ++ (aC t ++ cC t)
section
variable {D : DA} {t : St} {τ σ : Store}
theorem C3 {p : Addr × Cell} (h : p ∈ Dy D t) (σ : Store) : p ∈ AS D t ++ σ := List.mem_append_left _ (List.mem_append_left _ h)
theorem Bt {t' : St} {D' : DA} {a : Addr} {c c' : Cell} (h : Upd1 a c c' (Dy D t) (Dy D' t')) (ha : aC t' = aC t) (hc : cC t' = cC t) (σ : Store) : Upd1 a c c' (AS D t ++ σ) (AS D' t' ++ σ) := by
 unfold AS
 rw [ha, hc]
 exact (h.append_right _).append_right _
theorem CV (σ : Store) : (D.due, Cell.sdict (BY D t)) ∈ AS D t ++ σ := C3 (.head _) σ
theorem md_op (σ : Store) : (D.op, Cell.list (t.opn.map V.int)) ∈ AS D t ++ σ := C3 (.tail _ (.head _)) σ
theorem md_li (σ : Store) : (D.li, Cell.list (t.fmt.map V.int)) ∈ AS D t ++ σ := C3 (.tail _ (.tail _ (.head _))) σ
theorem Ih (σ : Store) : (D.names, Cell.list (t.names.map V.str)) ∈ AS D t ++ σ := C3 (.tail _ (.tail _ (.tail _ (.head _)))) σ
theorem md_spaces (σ : Store) : (D.spaces, Cell.list (t.spaces.map V.str)) ∈ AS D t ++ σ := C3 (.tail _ (.tail _ (.tail _ (.tail _ (.head _))))) σ
theorem md_attrs (σ : Store) : (D.attrs, Cell.list (t.aA.map V.ref)) ∈ AS D t ++ σ := C3 (.tail _ (.tail _ (.tail _ (.tail _ (.tail _ (.head _)))))) σ
theorem md_children (σ : Store) : (D.children, Cell.list (t.cA.map V.ref)) ∈ AS D t ++ σ := C3 (.tail _ (.tail _ (.tail _ (.tail _ (.tail _ (.tail _ (.tail _ (.head _)))))))) σ
theorem Gf (σ : Store) : (D.contents, Cell.idict (t.contents.map dcV)) ∈ AS D t ++ σ := C3 (.tail _ (.tail _ (.tail _ (.tail _ (.tail _ (.tail _ (.tail _ (.tail _ (.head _))))))))) σ
end
section
variable {g : G} {k : Nat} {D : DA} {t : St} {σ : Store} {Q : V → Store → Prop} {value slice : Expr}
theorem EJ (q : Q (.ref D.op) (AS D t ++ σ)) (hs : ∀ o v, subscripted slice false o v = operate [o, v] (getItem o v) := by intro _ _; with_unfolding_all rfl) : O2 g k Is (AS D t ++ σ) (subscriptTail value slice) (.ref D.due) (.str (zs "open")) Q := BH (CV σ) (by kernel_rfl) q hs
theorem D_list (q : Q (.ref D.li) (AS D t ++ σ)) (hs : ∀ o v, subscripted slice false o v = operate [o, v] (getItem o v) := by intro _ _; with_unfolding_all rfl) : O2 g k Is (AS D t ++ σ) (subscriptTail value slice) (.ref D.due) (.str (zs "list")) Q := BH (CV σ) (by kernel_rfl) q hs
theorem D_names (q : Q (.ref D.names) (AS D t ++ σ)) (hs : ∀ o v, subscripted slice false o v = operate [o, v] (getItem o v) := by intro _ _; with_unfolding_all rfl) : O2 g k Is (AS D t ++ σ) (subscriptTail value slice) (.ref D.due) (.str (zs "names")) Q := BH (CV σ) (by kernel_rfl) q hs
theorem D_spaces (q : Q (.ref D.spaces) (AS D t ++ σ)) (hs : ∀ o v, subscripted slice false o v = operate [o, v] (getItem o v) := by intro _ _; with_unfolding_all rfl) : O2 g k Is (AS D t ++ σ) (subscriptTail value slice) (.ref D.due) (.str (zs "spaces")) Q := BH (CV σ) (by kernel_rfl) q hs
theorem D_attrs (q : Q (.ref D.attrs) (AS D t ++ σ)) (hs : ∀ o v, subscripted slice false o v = operate [o, v] (getItem o v) := by intro _ _; with_unfolding_all rfl) : O2 g k Is (AS D t ++ σ) (subscriptTail value slice) (.ref D.due) (.str (zs "attrs")) Q := BH (CV σ) (by kernel_rfl) q hs
theorem D_parents (q : Q (.ref D.parents) (AS D t ++ σ)) (hs : ∀ o v, subscripted slice false o v = operate [o, v] (getItem o v) := by intro _ _; with_unfolding_all rfl) : O2 g k Is (AS D t ++ σ) (subscriptTail value slice) (.ref D.due) (.str (zs "parents")) Q := BH (CV σ) (by kernel_rfl) q hs
theorem Ii (q : Q (.ref D.children) (AS D t ++ σ)) (hs : ∀ o v, subscripted slice false o v = operate [o, v] (getItem o v) := by intro _ _; with_unfolding_all rfl) : O2 g k Is (AS D t ++ σ) (subscriptTail value slice) (.ref D.due) (.str (zs "children")) Q := BH (CV σ) (by kernel_rfl) q hs
theorem D_contents (q : Q (.ref D.contents) (AS D t ++ σ)) (hs : ∀ o v, subscripted slice false o v = operate [o, v] (getItem o v) := by intro _ _; with_unfolding_all rfl) : O2 g k Is (AS D t ++ σ) (subscriptTail value slice) (.ref D.due) (.str (zs "contents")) Q := BH (CV σ) (by kernel_rfl) q hs
theorem D_owners (q : Q (.ref D.owners) (AS D t ++ σ)) (hs : ∀ o v, subscripted slice false o v = operate [o, v] (getItem o v) := by intro _ _; with_unfolding_all rfl) : O2 g k Is (AS D t ++ σ) (subscriptTail value slice) (.ref D.due) (.str (zs "owners")) Q := BH (CV σ) (by kernel_rfl) q hs
theorem D_errors (q : Q (.ref D.errors) (AS D t ++ σ)) (hs : ∀ o v, subscripted slice false o v = operate [o, v] (getItem o v) := by intro _ _; with_unfolding_all rfl) : O2 g k Is (AS D t ++ σ) (subscriptTail value slice) (.ref D.due) (.str (zs "errors")) Q := BH (CV σ) (by kernel_rfl) q hs
theorem D_form (q : Q (.int t.form) (AS D t ++ σ)) (hs : ∀ o v, subscripted slice false o v = operate [o, v] (getItem o v) := by intro _ _; with_unfolding_all rfl) : O2 g k Is (AS D t ++ σ) (subscriptTail value slice) (.ref D.due) (.str (zs "form")) Q := BH (CV σ) (by kernel_rfl) q hs
theorem D_kinds (q : Q (.ref D.kinds) (AS D t ++ σ)) (hs : ∀ o v, subscripted slice false o v = operate [o, v] (getItem o v) := by intro _ _; with_unfolding_all rfl) : O2 g k Is (AS D t ++ σ) (subscriptTail value slice) (.ref D.due) (.str (zs "kinds")) Q := BH (CV σ) (by kernel_rfl) q hs
theorem ud_names {ds : List V} (x : List Str) (h : ds = x.map V.str) : Upd1 D.names (.list (t.names.map V.str)) (.list ds) (AS D t ++ σ) (AS D { t with names := x } ++ σ) := h ▸ Bt (D := D) (D' := D) (t := t) (t' := { t with names := x }) (.tail (.tail (.tail (.head)))) rfl rfl σ
theorem ud_spaces {ds : List V} (x : List Str) (h : ds = x.map V.str) : Upd1 D.spaces (.list (t.spaces.map V.str)) (.list ds) (AS D t ++ σ) (AS D { t with spaces := x } ++ σ) := h ▸ Bt (D := D) (D' := D) (t := t) (t' := { t with spaces := x }) (.tail (.tail (.tail (.tail (.head))))) rfl rfl σ
theorem ud_kinds {ds : List V} (x : List Str) (h : ds = x.map V.str) : Upd1 D.kinds (.list (t.kinds.map V.str)) (.list ds) (AS D t ++ σ) (AS D { t with kinds := x } ++ σ) := h ▸ Bt (D := D) (D' := D) (t := t) (t' := { t with kinds := x }) (.tail (.tail (.tail (.tail (.tail (.tail (.tail (.tail (.tail (.tail (.tail (.head)))))))))))) rfl rfl σ
theorem ud_parents {ds : List V} (x : List Int) (h : ds = x.map V.int) : Upd1 D.parents (.list (t.parents.map V.int)) (.list ds) (AS D t ++ σ) (AS D { t with parents := x } ++ σ) := h ▸ Bt (D := D) (D' := D) (t := t) (t' := { t with parents := x }) (.tail (.tail (.tail (.tail (.tail (.tail (.head))))))) rfl rfl σ
theorem ud_li {ds : List V} (x : List Int) (h : ds = x.map V.int) : Upd1 D.li (.list (t.fmt.map V.int)) (.list ds) (AS D t ++ σ) (AS D { t with fmt := x } ++ σ) := h ▸ Bt (D := D) (D' := D) (t := t) (t' := { t with fmt := x }) (.tail (.tail (.head))) rfl rfl σ
theorem ud_errors {ds : List V} (x : List (Str × Str)) (h : ds = x.map prV) : Upd1 D.errors (.list (t.errors.map prV)) (.list ds) (AS D t ++ σ) (AS D { t with errors := x } ++ σ) := h ▸ Bt (D := D) (D' := D) (t := t) (t' := { t with errors := x }) (.tail (.tail (.tail (.tail (.tail (.tail (.tail (.tail (.tail (.tail (.head))))))))))) rfl rfl σ
theorem ud_owners {ds : List (Int × V)} (x : List (Int × Int)) (h : ds = x.map dcV) : Upd1 D.owners (.idict (t.owners.map dcV)) (.idict ds) (AS D t ++ σ) (AS D { t with owners := x } ++ σ) := h ▸ Bt (D := D) (D' := D) (t := t) (t' := { t with owners := x }) (.tail (.tail (.tail (.tail (.tail (.tail (.tail (.tail (.tail (.head)))))))))) rfl rfl σ
end
end Mine
namespace Mine
structure Txt (s : St) : Prop where
 n : ∀ x ∈ s.names, x.length ≤ 100
 sp : ∀ x ∈ s.spaces, x.length ≤ 100
theorem F5 {xs : List Str} (h : ∀ x ∈ xs, x.length ≤ 100) (i : Nat) : (xs.getD i es).length ≤ 100 := by
 rw [List.getD_eq_getElem?_getD]
 cases e : xs[i]? with
 | none => exact Nat.zero_le _
 | some y => exact h y (List.mem_of_getElem? e)
noncomputable def colon : Str := zs ":"
noncomputable def St.wd (s : St) (x : Int) : Str := (s.sp x ++ colon) ++ s.na x
theorem colon_len : colon.length = 1 := by decide +kernel
theorem Txt.len1 {s : St} (h : Txt s) (x : Int) : (s.sp x).length + colon.length ≤ sizeLine := by
 have := F5 h.sp x.toNat
 rw [colon_len, sizeLine_eq]; unfold St.sp; omega
theorem Txt.len2 {s : St} (h : Txt s) (x : Int) : (s.sp x ++ colon).length + (s.na x).length ≤ sizeLine := by
 have := F5 h.sp x.toNat
 have := F5 h.n x.toNat
 rw [Str.length_append, colon_len, sizeLine_eq]; unfold St.sp St.na; omega
section
variable {g : G} {k : Nat} {D : DA} {t : St} {τ σ : Store} {Q : V → Store → Prop} {b : Nat} {x : Int} {value slice : Expr}
theorem O_dsp (ok : Ok t) (h0 : 0 ≤ x) (h1 : x < t.names.length) (w : Big t b) (q : Q (.str (t.sp x)) σ) (m : (D.spaces, Cell.list (t.spaces.map V.str)) ∈ σ := by walk_at "md") (hs : ∀ o v, subscripted slice false o v = operate [o, v] (getItem o v) := by intro _ _; with_unfolding_all rfl) :
  O2 g k Is σ (subscriptTail value slice) (.ref D.spaces) (.int x) Q := Ay m h0 (int63 h1 w.n w.small) (HN h0 h1 ok.sp) q hs
theorem O_dna (ok : Ok t) (h0 : 0 ≤ x) (h1 : x < t.names.length) (w : Big t b) (q : Q (.str (t.na x)) σ) (m : (D.names, Cell.list (t.names.map V.str)) ∈ σ := by walk_at "md") (hs : ∀ o v, subscripted slice false o v = operate [o, v] (getItem o v) := by intro _ _; with_unfolding_all rfl) :
  O2 g k Is σ (subscriptTail value slice) (.ref D.names) (.int x) Q := Ay m h0 (int63 h1 w.n w.small) (HN h0 h1 rfl) q hs
end
theorem Ch {g : G} {k : Nat} {f : Addr} {ds : List V} {σ : Store} {Q : V → Store → Prop} (h : Fn g k f ds (σ ++ []) Q) : Fn g k f ds σ Q := by rw [List.append_nil] at h; exact h
theorem EK {Q : V → Store → Prop} {d : V} {σ X : Store} (q : Q d σ) : BC Q (.ret d) (σ ++ X) := ⟨σ, σ, List.sublist_append_left _ _, .refl _, q⟩
theorem Db {Q : V → Store → Prop} {d : V} {R τ X : Store} {l p a : Addr × Cell} (q : Q d (R ++ l :: a :: τ)) : BC Q (.ret d) ((R ++ l :: τ) ++ p :: a :: X) := by
 refine ⟨(R ++ l :: τ) ++ [a], _, ?_, ?_, q⟩
 ·exact List.Sublist.append_left (List.Sublist.cons _ (List.Sublist.cons₂ _ (List.nil_sublist _))) _
 ·rw [List.append_assoc, List.cons_append]
  exact List.Perm.append_left R (List.Perm.cons l List.perm_append_comm)
section
variable {g : G} {k : Nat} {σ : Store} {env : Env} {Q : V → Store → Prop} {R τ : Store} {L : Addr} {m : Loc}
theorem O_sc0 {x : Str} {d : V} {o : Option V} {c : Addr} {Y : Store} {Q : Unit → Store → Prop} (hc : env.cells.lookup x = some c) (q : Q () (Fm R L m ((c, .cell (some d)) :: Y)))
  (hk : env.scope.kind = .function := by rfl) (hl : env.kindOf x = some .cell := by rfl) : O1 g k EqR (Fm R L m ((c, .cell o) :: Y)) (fun v => storeName env x v) d Q := FA hc (Upd1.append_left (.tail (.head)) R) q hk hl
theorem O_sc1 {p0 : Addr × Cell} {x : Str} {d : V} {o : Option V} {c : Addr} {Y : Store} {Q : Unit → Store → Prop} (hc : env.cells.lookup x = some c) (q : Q () (Fm R L m (p0 :: (c, .cell (some d)) :: Y)))
  (hk : env.scope.kind = .function := by rfl) (hl : env.kindOf x = some .cell := by rfl) : O1 g k EqR (Fm R L m (p0 :: (c, .cell o) :: Y)) (fun v => storeName env x v) d Q := FA hc (Upd1.append_left (.tail (.tail (.head))) R) q hk hl
theorem O_sc2 {p0 p1 : Addr × Cell} {x : Str} {d : V} {o : Option V} {c : Addr} {Y : Store} {Q : Unit → Store → Prop} (hc : env.cells.lookup x = some c) (q : Q () (Fm R L m (p0 :: p1 :: (c, .cell (some d)) :: Y)))
  (hk : env.scope.kind = .function := by rfl) (hl : env.kindOf x = some .cell := by rfl) : O1 g k EqR (Fm R L m (p0 :: p1 :: (c, .cell o) :: Y)) (fun v => storeName env x v) d Q := FA hc (Upd1.append_left (.tail (.tail (.tail (.head)))) R) q hk hl
theorem O_sc4 {p0 p1 p2 p3 : Addr × Cell} {x : Str} {d : V} {o : Option V} {c : Addr} {Y : Store} {Q : Unit → Store → Prop} (hc : env.cells.lookup x = some c) (q : Q () (Fm R L m (p0 :: p1 :: p2 :: p3 :: (c, .cell (some d)) :: Y)))
  (hk : env.scope.kind = .function := by rfl) (hl : env.kindOf x = some .cell := by rfl) : O1 g k EqR (Fm R L m (p0 :: p1 :: p2 :: p3 :: (c, .cell o) :: Y)) (fun v => storeName env x v) d Q := FA hc (Upd1.append_left (.tail (.tail (.tail (.tail (.tail (.head)))))) R) q hk hl
noncomputable def pV (p : Str → Bool) : V → Bool
 | .str x => p x
 | _ => false
theorem filter_strs (p : Str → Bool) (xs : List Str) : (xs.map V.str).filter (pV p) = (xs.filter p).map V.str := by
 induction xs with
 | nil => rfl
 | cons x xs ih => simp only [List.map_cons, List.filter_cons, ih, pV]; cases p x <;> rfl
theorem Cr {elt c : Expr} {x : Str} {scope : Scope} {cl : List (Str × Addr)} {l : Addr} {xs : List Str} (p : Str → Bool) (hm : (l, Cell.list (xs.map V.str)) ∈ Fm R L m τ) (hz : xs.length ≤ sizeLine)
  (turn : ∀ d C τ', WT g k (Fm (Fm R L m τ) C [(x, .str d)] τ') (compEnvC scope cl C env) c fun b σ' => b = p d ∧ σ' = Fm (Fm R L m τ) C [(x, .str d)] τ')
  (turn2 : ∀ d C τ', WE g k (Fm (Fm R L m τ) C [(x, .str d)] τ') (compEnvC scope cl C env) elt fun d' σ' => d' = .str d ∧ σ' = Fm (Fm R L m τ) C [(x, .str d)] τ')
  (q : ∀ a, Q (.ref a) (Fm R L m ((a, .list ((xs.filter p).map V.str)) :: τ))) : Cg g k (Fm R L m τ) env elt x [c] scope cl (.ref l) Q := by
 refine Fh (pV p) id hm (by rw [List.length_map]; exact hz) (fun d hd C τ' => ?_) (fun d hd _ C τ' => ?_) (fun a => ?_)
 ·obtain ⟨x, _, rfl⟩ := List.mem_map.mp hd; exact turn x C τ'
 ·obtain ⟨x, _, rfl⟩ := List.mem_map.mp hd; exact turn2 x C τ'
 ·rw [List.map_id, filter_strs]; exact q a
theorem range_upN (n : Nat) (N : Int) (hN : N = n) (hn : n ≤ 1000000) : Builtin.Range.rangeSize 0 N 1 = n ∧ Builtin.Range.small 0 N 1 = true := by
 have h1 : Builtin.Range.rangeSize 0 N 1 = n := by
  unfold Builtin.Range.rangeSize
  rw [if_pos (by decide)]
  split
  ·rw [Int.ediv_one]; omega
  ·omega
 refine ⟨h1, ?_⟩
 unfold Builtin.Range.small
 rw [h1]
 simp only [Builtin.Range.rangeFitsLong, Bool.and_eq_true, Bool.or_eq_true, decide_eq_true_eq]
 have e : (2:Int) ^ 63 = 9223372036854775808 := by decide
 refine ⟨⟨⟨⟨?_, ?_⟩, ?_⟩, ?_⟩, ?_⟩ <;> first | decide | (constructor <;> omega) | omega | skip
 all_goals (right; rw [if_pos (by decide)]; simp only [Bool.and_eq_true, decide_eq_true_eq]; omega)
theorem Ij (n : Nat) (hn : n ≤ 1000000) : Builtin.Range.rangeSize 0 (0 + (n : Int)) 1 = n ∧ Builtin.Range.small 0 (0 + (n : Int)) 1 = true := range_upN n _ (by omega) hn
theorem Gg {elt c : Expr} {x : Str} {scope : Scope} {cl : List (Str × Addr)} {rg : Addr} {n : Nat} (p : Nat → Bool) (f : Nat → V) (hm : (rg, Cell.pr (rngP 0 (n : Int) 1)) ∈ Fm R L m τ) (hn : n ≤ 1000000)
  (turn : ∀ i, i < n → ∀ C τ', WT g k (Fm (Fm R L m τ) C [(x, .int (i : Nat))] τ') (compEnvC scope cl C env) c fun b σ' => b = p i ∧ σ' = Fm (Fm R L m τ) C [(x, .int (i : Nat))] τ')
  (turn2 : ∀ i, i < n → p i = true → ∀ C τ', WE g k (Fm (Fm R L m τ) C [(x, .int (i : Nat))] τ') (compEnvC scope cl C env) elt fun d' σ' => d' = f i ∧ σ' = Fm (Fm R L m τ) C [(x, .int (i : Nat))] τ')
  (q : ∀ a, Q (.ref a) (Fm R L m ((a, .list (((List.range n).filter p).map f)) :: τ))) : Cg g k (Fm R L m τ) env elt x [c] scope cl (.ref rg) Q := by
 refine comp_range_if (a0 := 0) p f (by rw [Int.zero_add]; exact hm) hn (Ij n hn) (fun i hi C τ' => ?_) (fun i hi hp C τ' => ?_) q
 ·rw [Int.zero_add]; exact turn i hi C τ'
 ·rw [Int.zero_add]; exact turn2 i hi hp C τ'
theorem comp_ints {elt : Expr} {x : Str} {scope : Scope} {cl : List (Str × Addr)} {l : Addr} {xs : List Int} (f : Int → V) (hm : (l, Cell.list (xs.map V.int)) ∈ Fm R L m τ) (hz : xs.length ≤ sizeLine)
  (turn : ∀ d ∈ xs, ∀ C τ', WE g k (Fm (Fm R L m τ) C [(x, .int d)] τ') (compEnvC scope cl C env) elt fun d' σ' => d' = f d ∧ σ' = Fm (Fm R L m τ) C [(x, .int d)] τ')
  (q : ∀ a, Q (.ref a) (Fm R L m ((a, .list (xs.map f)) :: τ))) : Cg g k (Fm R L m τ) env elt x [] scope cl (.ref l) Q := by
 refine comp_list (fun d => match d with | .int i => f i | d => d) hm (by rw [List.length_map]; exact hz) (fun d hd C τ' => ?_) (fun a => ?_)
 ·obtain ⟨x, hx, rfl⟩ := List.mem_map.mp hd; exact turn x hx C τ'
 ·rw [List.map_map]; exact q a
end
end Mine
namespace Mine
local macro_rules | `(tactic| walk_at "uu") => `(tactic| first | exact Upd1.head | (refine' Upd1.tail ?_; walk_at "uu") | (refine' Upd1.append_left ?_ _; walk_at "uu"))
section
variable {g : G} {k : Nat} {D : DA} {t : St} {τ σ R : Store} {Q : V → Store → Prop} {b : Nat} {L₀ : Addr} {m₀ : Loc}
theorem CW (okt : Ok t) (w : Big t b) (tx : Txt t) (mD : ∀ p ∈ AS D t, p ∈ Fm R L₀ m₀ τ) (q : ∀ a, Q (.ref a) (Fm R L₀ m₀ ((a, .list ((t.opn.map t.wd).map V.str)) :: τ))) : Fn g (k + 1) 683 [.ref D.due] (Fm R L₀ m₀ τ) Q := by
 have hdue := mD (D.due, .sdict (BY D t)) (by simpa using CV (D := D) (t := t) [])
 have hop := mD (D.op, .list (t.opn.map V.int)) (by simpa using md_op (D := D) (t := t) [])
 have hsp := mD (D.spaces, .list (t.spaces.map V.str)) (by simpa using md_spaces (D := D) (t := t) [])
 have hna := mD (D.names, .list (t.names.map V.str)) (by simpa using Ih (D := D) (t := t) [])
 refine Ch ?_
 refine CT [(zs "due", .ref D.due)] [] (fun L => [(L + 1, .cell (some (.ref D.due)))]) (lk_law_open _) (cd_law_open _) (fun h vs i => by cases i with | cons i1 i => cases i; exact ⟨_, rfl, .cons i1 .nil, by kernel_rfl⟩) rfl (fun L => rfl) (by decide +kernel) (fun L => by kernel_rfl) (fun L => ?_) (by kernel_rfl) (by kernel_rfl) (by kernel_rfl)
 conv in stB _ => whnf
 conv in stS _ => whnf
 refine A6 ?_
 refine AG ?_
 refine Cp (cl := _) rfl (by decide) rfl (by decide) rfl ?_
 refine AO ?_
 refine Al rfl (by walk_at "mm") ?_
 refine A9 ?_
 refine BH (List.mem_append_left _ hdue) (e := .ref D.op) (by kernel_rfl) ?_
 refine comp_ints (fun x => .str (t.wd x)) (List.mem_append_left _ hop) (line_le w.opn w.small) (fun x hx C τ' => ?_) (fun a => ?_)
 ·obtain ⟨h0, h1⟩ := okt.opn x hx
  refine AP ?_
  refine AP ?_
  refine AO ?_
  refine AO ?_
  refine Al rfl (by walk_at "mm") ?_
  refine A9 ?_
  refine BH (by walk_at "mm") (e := .ref D.spaces) (by kernel_rfl) ?_
  refine A4 rfl ?_
  refine O_dsp okt h0 h1 w ?_ (by walk_at "mm")
  refine A9 ?_
  refine O_addS (tx.len1 x) ?_
  refine AO ?_
  refine AO ?_
  refine Al rfl (by walk_at "mm") ?_
  refine A9 ?_
  refine BH (by walk_at "mm") (e := .ref D.names) (by kernel_rfl) ?_
  refine A4 rfl ?_
  refine O_dna okt h0 h1 w ?_ (by walk_at "mm")
  refine O_addS (tx.len2 x) ?_
  exact ⟨rfl, rfl⟩
 ·refine Db ?_
  have := q a
  rw [List.map_map] at this
  exact this
noncomputable def impliedW : List Str := sL ["html:dd", "html:dt", "html:li", "html:optgroup", "html:option", "html:p", "html:rb", "html:rp", "html:rt", "html:rtc"]
noncomputable def solid (ws : List Str) : List Str := ws.filter fun x => !impliedW.contains x
theorem Ik {wl : Addr} {ws : List Str} (hw : (wl, Cell.list (ws.map V.str)) ∈ Fm R L₀ m₀ τ) (hz : ws.length ≤ 1000000) (q : ∀ a, Q (.ref a) (Fm R L₀ m₀ ((a, .list ((solid ws).map V.str)) :: τ))) : Fn g (k + 1) 688 [.ref wl] (Fm R L₀ m₀ τ) Q := by
 refine Ch ?_
 refine CT [(zs "words", .ref wl)] [(zs "words", .ref wl)] (fun L => [(L + 1, .cell none)]) (lk_law_solid _) (cd_law_solid _) (fun h vs i => by cases i with | cons i1 i => cases i; exact ⟨_, rfl, .cons i1 .nil, by kernel_rfl⟩) rfl (fun L => rfl) (by decide +kernel) (fun L => by kernel_rfl) (fun L => ?_) (by kernel_rfl) (by kernel_rfl) (by kernel_rfl)
 conv in stB _ => whnf
 conv in stS _ => whnf
 refine A6 ?_
 refine AD ?_
 refine AH ?_
 refine A9 ?_
 refine By TyOf.str F.plainAttrs_str F.slot_str_split F.type_str_split ?_
 refine Bg (ws := impliedW) (by kernel_rfl) (by kernel_rfl) (by kernel_rfl) (by kernel_rfl) fun a => ?_
 refine O_sc1 rfl ?_
 refine A6 ?_
 refine AG ?_
 refine Cp (cl := _) rfl (by decide) rfl (by decide) rfl ?_
 refine A4 rfl ?_
 refine Cr (fun x => !impliedW.contains x) (List.mem_append_left _ hw) (line_le hz (by decide)) (fun d C τ' => ?_) (fun d C τ' => ?_) (fun a => ?_)
 ·refine AB ?_
  refine A4 rfl ?_
  refine Al rfl (by walk_at "mm") ?_
  refine O_ninLS (by walk_at "mm") ?_
  refine ⟨_, rfl, ?_⟩
  refine ⟨rfl, ?_⟩
  rfl
 ·refine A4 rfl ?_
  refine ⟨rfl, ?_⟩
  rfl
 ·exact Db (q a)
noncomputable def passedW : List Str := sL ["html:address", "html:div", "html:p", "html:span", "html:b", "html:i", "html:a", "html:rt", "html:option", "html:dialog", "svg:g", "svg:li", "svg:p", "svg:dt", "math:mrow"]
noncomputable def endsW : List Str := sL ["html:td", "html:table", "html:template", "html:object", "html:html", "svg:desc", "math:mi", "math:annotation-xml"]
noncomputable def CM : Str := zs "item"
noncomputable def D4 (sort : Str) (ws : List Str) : List Str :=
 if sort == CM then ws.filter fun x => !passedW.contains x else if sort == buttonS then ws.filter fun x => (endsW ++ [zs "html:button"]).contains x else ws.filter fun x => endsW.contains x
theorem law_ends_spec {wl : Addr} {ws : List Str} {sort : Str} (hw : (wl, Cell.list (ws.map V.str)) ∈ Fm R L₀ m₀ τ) (hz : ws.length ≤ 1000000) (q : ∀ a, Q (.ref a) (Fm R L₀ m₀ ((a, .list ((D4 sort ws).map V.str)) :: τ))) : Fn g (k + 1) 693 [.ref wl, .str sort] (Fm R L₀ m₀ τ) Q := by
 have hz' := line_le hz (by decide : 1000000 ≤ 1000000)
 refine Ch ?_
 refine CT [(zs "sort", .str sort), (zs "words", .ref wl)] [(zs "sort", .str sort), (zs "words", .ref wl)] (fun L => [(L + 1 + 1, .cell none), (L + 1, .cell none)]) (lk_law_ends _) (cd_law_ends _) (fun h vs i => by cases i with | cons i1 i => cases i with | cons i2 i => cases i; exact ⟨_, rfl, .cons i2 (.cons i1 .nil), by kernel_rfl⟩) rfl (fun L => rfl) (by decide +kernel) (fun L => by kernel_rfl) (fun L => ?_) (by kernel_rfl) (by kernel_rfl) (by kernel_rfl)
 conv in stB _ => whnf
 conv in stS _ => whnf
 unfold D4 at q
 refine A6 ?_
 refine AY ?_
 refine AB ?_
 refine A4 rfl ?_
 refine A9 ?_
 refine B9 ?_
 refine ⟨_, rfl, ?_⟩
 refine AQ (fun h => ?_) (fun h => ?_)
 ·rw [if_pos (show (sort == CM) = true from h)] at q
  refine A6 ?_
  refine AD ?_
  refine A9 ?_
  refine O_sc1 rfl ?_
  refine A6 ?_
  refine AD ?_
  refine AP ?_
  refine AH ?_
  refine Al rfl (by walk_at "mm") ?_
  refine By TyOf.str F.plainAttrs_str F.slot_str_split F.type_str_split ?_
  refine Bg (ws := passedW.take 10) (by kernel_rfl) (by kernel_rfl) (by kernel_rfl) (by kernel_rfl) fun a => ?_
  refine AH ?_
  refine A9 ?_
  refine By TyOf.str F.plainAttrs_str F.slot_str_split F.type_str_split ?_
  refine Bg (ws := passedW.drop 10) (by kernel_rfl) (by kernel_rfl) (by kernel_rfl) (by kernel_rfl) fun a => ?_
  refine CU (xs := (passedW.take 10).map V.str) (ys := (passedW.drop 10).map V.str) (by walk_at "mm") (by walk_at "mm") (by rw [List.length_map, List.length_map]; exact sz_lit (by kernel_rfl)) fun c => ?_
  rw [← List.map_append, List.take_append_drop]
  refine O_sc4 rfl ?_
  refine A6 ?_
  refine AG ?_
  refine Cp (cl := _) rfl (by decide) rfl (by decide) rfl ?_
  refine A4 rfl ?_
  refine Cr (fun x => !passedW.contains x) (List.mem_append_left _ hw) hz' (fun d C τ' => ?_) (fun d C τ' => ?_) (fun a => ?_)
  ·refine AB ?_
   refine A4 rfl ?_
   refine Al rfl (by walk_at "mm") ?_
   refine O_ninLS (by walk_at "mm") ?_
   refine ⟨_, rfl, ?_⟩
   refine ⟨rfl, ?_⟩
   rfl
  ·refine A4 rfl ?_
   refine ⟨rfl, ?_⟩
   rfl
  ·exact Db (q a)
 rw [if_neg (show ¬ (sort == CM) = true by rw [show (sort == CM) = false from h]; decide)] at q
 refine A8 ?_
 refine A6 ?_
 refine AD ?_
 refine AH ?_
 refine A9 ?_
 refine By TyOf.str F.plainAttrs_str F.slot_str_split F.type_str_split ?_
 refine Bg (ws := endsW) (by kernel_rfl) (by kernel_rfl) (by kernel_rfl) (by kernel_rfl) fun a => ?_
 refine O_sc1 rfl ?_
 refine A6 ?_
 refine AY ?_
 refine AB ?_
 refine A4 rfl ?_
 refine A9 ?_
 refine B9 ?_
 refine ⟨_, rfl, ?_⟩
 refine AQ (fun h => ?_) (fun h => ?_)
 ·rw [if_pos (show (sort == buttonS) = true from h)] at q
  refine A6 ?_
  refine AI ?_
  refine AH ?_
  refine Al rfl (by walk_at "mm") ?_
  refine Aq (TyOf.list (by walk_at "mm")) F.plainAttrs_list F.slot_list_append F.type_list_append ?_
  refine A5 ?_
  refine A9 ?_
  refine A7 ?_
  refine Aa (ds := endsW.map V.str) (Upd1.append_left (.tail .head) _) (by rw [List.length_map]; exact sz_lit (by kernel_rfl)) ?_
  rw [show endsW.map V.str ++ [V.str (zs "html:button")] = (endsW ++ [zs "html:button"]).map V.str by rw [List.map_append]; rfl]
  refine ⟨rfl, ?_⟩
  refine A8 ?_
  refine A6 ?_
  refine AG ?_
  refine Cp (cl := _) rfl (by decide) rfl (by decide) rfl ?_
  refine A4 rfl ?_
  refine Cr (fun x => (endsW ++ [zs "html:button"]).contains x) (List.mem_append_left _ hw) hz' (fun d C τ' => ?_) (fun d C τ' => ?_) (fun a => ?_)
  ·refine AB ?_
   refine A4 rfl ?_
   refine Al rfl (by walk_at "mm") ?_
   refine Et (by walk_at "mm") ?_
   refine ⟨_, rfl, ?_⟩
   refine ⟨rfl, ?_⟩
   rfl
  ·refine A4 rfl ?_
   refine ⟨rfl, ?_⟩
   rfl
  ·exact Db (q a)
 ·rw [if_neg (show ¬ (sort == buttonS) = true by rw [show (sort == buttonS) = false from h]; decide)] at q
  refine A8 ?_
  refine A6 ?_
  refine AG ?_
  refine Cp (cl := _) rfl (by decide) rfl (by decide) rfl ?_
  refine A4 rfl ?_
  refine Cr (fun x => endsW.contains x) (List.mem_append_left _ hw) hz' (fun d C τ' => ?_) (fun d C τ' => ?_) (fun a => ?_)
  ·refine AB ?_
   refine A4 rfl ?_
   refine Al rfl (by walk_at "mm") ?_
   refine Et (by walk_at "mm") ?_
   refine ⟨_, rfl, ?_⟩
   refine ⟨rfl, ?_⟩
   rfl
  ·refine A4 rfl ?_
   refine ⟨rfl, ?_⟩
   rfl
  ·exact Db (q a)
end
end Mine
namespace Mine
noncomputable def Bm (ws ns : List Str) : List Nat := (List.range ws.length).filter fun i => ns.contains (ws.getD i es)
noncomputable def Av (ws ns : List Str) (sort : Str) : Int := match (Bm ws ns).getLast? with
 | none => -1
 | some i => if (D4 sort (ws.drop (i + 1))).isEmpty then (i : Int) else -1
theorem F6 {n : Nat} {p : Nat → Bool} {i : Nat} (h : ((List.range n).filter p).getLast? = some i) : i < n := by
 have := List.mem_of_getLast? h
 rw [List.mem_filter, List.mem_range] at this
 exact this.1
theorem ws_item {ws : List Str} {i : Nat} (h : i < ws.length) : (ws.map V.str)[((i : Nat) : Int).toNat]? = some (V.str (ws.getD i es)) := by
 rw [Int.toNat_natCast, List.getElem?_map, List.getElem?_eq_getElem h, List.getD_eq_getElem?_getD, List.getElem?_eq_getElem h]; rfl
noncomputable def St.wds (t : St) : List Str := t.opn.map t.wd
section
variable {g : G} {k : Nat} {D : DA} {t : St} {τ σ R : Store} {Q : V → Store → Prop} {b : Nat} {L₀ : Addr} {m₀ : Loc}
theorem EL {nl : Addr} {ns : List Str} {sort : Str} (okt : Ok t) (w : Big t b) (tx : Txt t) (mD : ∀ p ∈ AS D t, p ∈ Fm R L₀ m₀ τ) (hn : (nl, Cell.list (ns.map V.str)) ∈ Fm R L₀ m₀ τ) (hz : ns.length ≤ 1000000)
  (q : Q (.int (Av t.wds ns sort)) (Fm R L₀ m₀ τ)) : Fn g (k + 2) 698 [.ref D.due, .ref nl, .str sort] (Fm R L₀ m₀ τ) Q := by
 have hlen : t.wds.length ≤ 1000000 := by unfold St.wds; rw [List.length_map]; exact Nat.le_trans w.opn w.small
 refine Ch ?_
 refine CT [(zs "sort", .str sort), (zs "names", .ref nl), (zs "due", .ref D.due)] [(zs "sort", .str sort), (zs "due", .ref D.due)] (fun L => [(L + 1 + 1, .cell none), (L + 1, .cell (some (.ref nl)))]) (lk_law_place _) (cd_law_place _) (fun h vs i => by cases i with | cons i1 i => cases i with | cons i2 i => cases i with | cons i3 i => cases i; exact ⟨_, rfl, .cons i3 (.cons i2 (.cons i1 .nil)), by kernel_rfl⟩) rfl (fun L => rfl) (by decide +kernel) (fun L => by kernel_rfl) (fun L => ?_) (by kernel_rfl) (by kernel_rfl) (by kernel_rfl)
 conv in stB _ => whnf
 conv in stS _ => whnf
 refine A6 ?_
 refine AD ?_
 refine AJ (DD _) (DI _) ?_
 refine A5 ?_
 refine A4 rfl ?_
 refine A7 ?_
 refine CW okt w tx (fun p hp => List.mem_append_left _ (mD p hp)) fun a => ?_
 refine O_sc1 rfl ?_
 refine A6 ?_
 (refine DT (cl := _) ?hsw rfl (by decide) rfl (by decide) rfl ?_; (case hsw => with_unfolding_all rfl))
 refine Ap (DU _) rfl (by decide) ?_
 refine A5 ?_
 refine Ar (BN _) rfl (by decide) ?_
 refine A5 ?_
 refine Al rfl (by walk_at "mm") ?_
 refine A7 ?_
 refine BT (ds := t.wds.map V.str) (by walk_at "mm") (by rw [List.length_map]; exact line_le hlen (by decide)) ?_
 rw [List.length_map]
 refine A7 ?_
 refine G3 fun r => ?_
 refine Gg (fun i => ns.contains (t.wds.getD i es)) (fun i => .int (i : Nat)) (by walk_at "mm") hlen (fun i hi C τ' => ?_) (fun i hi hp C τ' => ?_) (fun a2 => ?_)
 ·refine AB ?_
  refine AO ?_
  refine Al rfl (by walk_at "mm") ?_
  refine A4 rfl ?_
  refine Ay (ds := t.wds.map V.str) (by walk_at "mm") (by omega) (by omega) (ws_item hi) ?_
  refine Al rfl (by walk_at "mm") ?_
  refine Et (xs := ns) (by walk_at "mm") ?_
  refine ⟨_, rfl, ?_⟩
  refine ⟨rfl, ?_⟩
  rfl
 ·refine A4 rfl ?_
  refine ⟨rfl, ?_⟩
  rfl
 refine ⟨_, _, _, rfl, ?_⟩
 unfold Av Bm at q
 have hnn : ((List.range t.wds.length).filter fun i => ns.contains (t.wds.getD i es)).length ≤ 1000000 := Nat.le_trans (List.length_filter_le _ _) (by rw [List.length_range]; exact hlen)
 generalize hps : (List.range t.wds.length).filter (fun i => ns.contains (t.wds.getD i es)) = ps at q hnn ⊢
 refine A6 ?_
 refine AY ?_
 refine GS ?_
 refine AB ?_
 refine A4 rfl ?_
 refine Af ?_
 refine A7 ?_
 refine ⟨_, _, _, _, rfl, sz_lit rfl, fun c => ?_⟩
 refine O_eqNil (by walk_at "mm") (by walk_at "mm") ?_
 refine ⟨_, rfl, ?_⟩
 cases hl : ps.getLast? with
 | none =>
  have hnil : ps = [] := List.getLast?_eq_none_iff.mp hl
  subst hnil
  rw [hl] at q
  refine DY rfl ?_
  refine DY rfl ?_
  refine A6 ?_
  refine AG ?_
  refine AX ?_
  refine AL ?_
  refine B8 ?_
  exact EK q
 | some i =>
  have hne : ps ≠ [] := by intro e; subst e; cases hl
  have hi : i < t.wds.length := F6 (p := fun i => ns.contains (t.wds.getD i es)) (by rw [hps]; exact hl)
  rw [hl] at q
  dsimp only at q
  refine CH (by cases ps with | nil => exact absurd rfl hne | cons _ _ => rfl) ?_
  refine F0 ?_
  refine AB ?_
  refine AJ (gl_law_ends _) (kp_law_ends _) ?_
  refine A5 ?_
  refine BX ?_
  refine Al rfl (by walk_at "mm") ?_
  refine Bs ?_
  refine AP ?_
  refine AO ?_
  refine A4 rfl ?_
  refine AX ?_
  refine AL ?_
  refine B8 ?_
  refine FG (d := .int (i : Nat)) (by walk_at "mm") (by rw [List.getLast?_map, hl]; rfl) ?_
  refine AL ?_
  refine Cw ?_
  refine Br ?_
  refine Bc (ds := t.wds.map V.str) (lo := some ((i + 1 : Nat) : Int)) (hi := none) (by walk_at "mm") (by rw [List.length_map]; exact line_le hlen (by decide)) (.int _) .none fun c => ?_
  rw [F4 _ _ (by rw [List.length_map]; omega), ← List.map_drop]
  refine A5 ?_
  refine A4 rfl ?_
  refine A7 ?_
  refine law_ends_spec (by walk_at "mm") (by rw [List.length_drop]; omega) fun d => ?_
  refine Af ?_
  refine A7 ?_
  refine ⟨_, _, _, _, rfl, sz_lit rfl, fun c => ?_⟩
  refine HP (by walk_at "mm") (by walk_at "mm") ?_
  refine ⟨_, rfl, ?_⟩
  have he : ((D4 sort (t.wds.drop (i + 1))).map V.str).isEmpty = (D4 sort (t.wds.drop (i + 1))).isEmpty := by rw [List.isEmpty_map]
  rw [he]
  refine AQ (fun h => ?_) (fun h => ?_)
  ·rw [if_neg (by cases h2 : (D4 sort (t.wds.drop (i + 1))).isEmpty with | true => rw [h2] at h; cases h | false => decide)] at q
   refine A6 ?_
   refine AG ?_
   refine AX ?_
   refine AL ?_
   refine B8 ?_
   exact EK q
  ·rw [if_pos (by cases h2 : (D4 sort (t.wds.drop (i + 1))).isEmpty with | false => rw [h2] at h; cases h | true => rfl)] at q
   refine A8 ?_
   refine A6 ?_
   refine AG ?_
   refine AO ?_
   refine A4 rfl ?_
   refine AX ?_
   refine AL ?_
   refine B8 ?_
   refine FG (d := .int (i : Nat)) (by walk_at "mm") (by rw [List.getLast?_map, hl]; rfl) ?_
   exact EK q
end
end Mine
namespace Mine
theorem mem_fm_of {R τ : Store} {L : Addr} {m : Loc} {p : Addr × Cell} (h : p ∈ R ++ τ) : p ∈ Fm R L m τ := by
 rcases List.mem_append.mp h with q | q
 ·exact List.mem_append_left _ q
 ·exact List.mem_append_right _ (.tail _ q)
noncomputable def Cm (D : DA) (t : St) : Store := (Dy D t).drop 2 ++ (aC t ++ cC t)
noncomputable def DA.at (D : DA) (c : Addr) : DA := { D with op := c }
theorem put_open (D : DA) (t : St) (c : Addr) : Gp (zs "open") (.ref c) (BY D t) = BY (D.at c) t := by
 unfold Gp
 rw [if_pos (by simp [BY])]
 kernel_rfl
theorem Fo {D : DA} {t : St} {c : Addr} {σ : Store} : Upd1 D.due (.sdict (BY D t)) (.sdict (Gp (zs "open") (.ref c) (BY D t))) (AS D t ++ σ) ((D.due, .sdict (BY (D.at c) t)) :: (D.op, .list (t.opn.map V.int)) :: Cm D t ++ σ) := by
 rw [put_open]; exact .head
theorem GM {g : G} {D : DA} {t : St} {c L : Addr} {m : Loc} {xs : List Int} {Y : Store} {h : HS} (S : SGd g ((D.due, .sdict (BY (D.at c) t)) :: (D.op, .list (t.opn.map V.int)) :: Cm D t ++ (L, .ns m) :: (c, .list (xs.map V.int)) :: Y) h) :
  SGd g (Fm (AS (D.at c) (t.setOpn xs)) L m Y) h := by
 have S1 := S.sublist (σ' := (D.due, .sdict (BY (D.at c) t)) :: (Cm D t ++ (L, .ns m) :: (c, .list (xs.map V.int)) :: Y)) (List.Sublist.cons_cons _ (List.sublist_cons_self _ _))
 have e : Fm (AS (D.at c) (t.setOpn xs)) L m Y = (D.due, .sdict (BY (D.at c) t)) :: (c, .list (xs.map V.int)) :: (Cm D t ++ (L, .ns m) :: Y) := rfl
 rw [e]
 refine S1.perm (List.Perm.cons _ ?_)
 have p1 : (Cm D t ++ (L, Cell.ns m) :: (c, Cell.list (xs.map V.int)) :: Y).Perm (Cm D t ++ (c, Cell.list (xs.map V.int)) :: (L, Cell.ns m) :: Y) := List.Perm.append_left _ (List.Perm.swap ..)
 exact p1.trans List.perm_middle
theorem next_open {Q : V → Store → Prop} {D : DA} {t : St} {c L : Addr} {m : Loc} {xs : List Int} {X τ : Store} (hX : τ.Sublist X) (q : Q .none (AS (D.at c) (t.setOpn xs) ++ τ)) :
  BC Q .next ((D.due, .sdict (BY (D.at c) t)) :: (D.op, .list (t.opn.map V.int)) :: Cm D t ++ (L, .ns m) :: (c, .list (xs.map V.int)) :: X) := by
 refine ⟨(D.due, .sdict (BY (D.at c) t)) :: (Cm D t ++ (c, .list (xs.map V.int)) :: τ), _, ?_, ?_, q⟩
 ·exact List.Sublist.cons_cons _ (List.Sublist.cons _ (List.Sublist.append_left (List.Sublist.cons _ (List.Sublist.cons_cons _ hX)) _))
 ·have e : AS (D.at c) (t.setOpn xs) ++ τ = (D.due, .sdict (BY (D.at c) t)) :: (c, .list (xs.map V.int)) :: (Cm D t ++ τ) := rfl
  rw [e]
  exact List.Perm.cons _ List.perm_middle
noncomputable def inBody : Str := zs "in body"
noncomputable def St.dErr (t : St) (e : Str) : St := t.setErr (t.errors ++ [(e, inBody)])
noncomputable def St.dclE (t : St) (p : Int) : List (Str × Str) := if (solid (t.wds.drop (p.toNat + 1))).isEmpty then t.errors else t.errors ++ [(openE, inBody)]
noncomputable def St.dclose (t : St) (ns : List Str) (sort : Str) : St := if Av t.wds ns sort == -1 then t else (t.setErr (t.dclE (Av t.wds ns sort))).setOpn (t.opn.take (Av t.wds ns sort).toNat)
theorem Gh (ws ns : List Str) (sort : Str) : Av ws ns sort = -1 ∨ (0 ≤ Av ws ns sort ∧ Av ws ns sort < ws.length) := by
 unfold Av
 split
 ·exact .inl rfl
 ·rename_i i h
  split
  ·have := F6 h; right; omega
  ·exact .inl rfl
section
variable {g : G} {k : Nat} {D : DA} {t : St} {τ σ R : Store} {Q : V → Store → Prop} {b : Nat} {L₀ : Addr} {m₀ : Loc}
theorem CN {nl : Addr} {ns : List Str} {sort : Str} (okt : Ok t) (w : Big t b) (tx : Txt t) (hn : (nl, Cell.list (ns.map V.str)) ∈ AS D t ++ τ) (hz : ns.length ≤ 1000000)
  (q : ∀ c, Q .none (AS (D.at c) (t.dclose ns sort) ++ τ)) : Fn g (k + 3) 705 [.ref D.due, .ref nl, .str sort] (AS D t ++ τ) Q := by
 have hlen : t.wds.length ≤ 1000000 := by unfold St.wds; rw [List.length_map]; exact Nat.le_trans w.opn w.small
 have hl2 : t.wds.length = t.opn.length := by unfold St.wds; rw [List.length_map]
 have mD : ∀ {X : Store}, ∀ p ∈ AS D t, p ∈ AS D t ++ X := fun p hp => List.mem_append_left _ hp
 refine AN [(zs "sort", .str sort), (zs "names", .ref nl), (zs "due", .ref D.due)] (lk_law_close _) (cd_law_close _) (bnd3 (fun _ _ _ => by kernel_rfl) (by kernel_rfl)) (fun L => ?_) (by decide +kernel) (by kernel_rfl) (by kernel_rfl) (by kernel_rfl)
 conv in stB _ => whnf
 conv in stS _ => whnf
 refine A6 ?_
 refine AD ?_
 refine AJ (F9 _) (FX _) ?_
 refine A5 ?_
 refine A4 rfl ?_
 refine A5 ?_
 refine A4 rfl ?_
 refine A5 ?_
 refine A4 rfl ?_
 refine A7 ?_
 refine EL okt w tx mD (mem_fm_of hn) hz ?_
 unfold St.dclose at q
 have hr := Gh t.wds ns sort
 generalize Av t.wds ns sort = p at q hr ⊢
 refine AF ?_
 refine A6 ?_
 refine AY ?_
 refine AB ?_
 refine A4 rfl ?_
 refine AX ?_
 refine AL ?_
 refine B8 ?_
 refine CX ?_
 refine ⟨_, rfl, ?_⟩
 refine AQ (fun h => ?_) (fun h => ?_)
 ·simp only [if_pos h] at q
  refine A6 ?_
  refine CP ?_
  exact AR (Ak ..) (q D.op)
 have hp : 0 ≤ p ∧ p < t.wds.length := hr.resolve_left (by intro e; subst e; cases h)
 rw [hl2] at hp
 simp only [show (p == -1) = false from h, Bool.false_eq_true, if_false] at q
 have tail : ∀ (X : Store), τ.Sublist X → W g (k + 2) IsFl (Fm (AS D (t.setErr (t.dclE p))) L [(zs "place", .int p), (zs "sort", .str sort), (zs "names", .ref nl), (zs "due", .ref D.due)] X) (execs ((stB (tS 55)).drop 3) (envOf (zs "_law_close") (stS (tS 55)) L 705 (.ref 704))) (BC Q) := by
  intro X hX
  conv in stB _ => whnf
  conv in stS _ => whnf
  show WS g (k + 2) _ _ [_] _
  have e2 : p = ((p.toNat : Nat) : Int) := by omega
  refine A6 ?_
  refine BF ?_
  refine BX ?_
  refine AO ?_
  refine A4 rfl ?_
  refine A9 ?_
  refine EJ ?_
  refine Br ?_
  refine Bs ?_
  refine A4 rfl ?_
  rw [e2]
  refine Bc (ds := t.opn.map V.int) (lo := none) (hi := some ((p.toNat : Nat) : Int)) (md_op (D := D) (t := t.setErr _) _) (by rw [List.length_map]; exact line_le w.opn w.small) .none (.int _) fun c => ?_
  rw [D3 _ _ (by rw [List.length_map]; omega), ← List.map_take]
  refine A4 rfl ?_
  refine A9 ?_
  refine EU (Fo (t := t.setErr _)) (Nat.le_trans (Nat.le_of_ble_eq_true (by kernel_rfl : Nat.ble (BY D (t.setErr (t.dclE p))).length 1000 = true)) (by rw [sizeLine_eq]; omega)) ?_
  refine A8 ?_
  exact next_open hX (by rw [← e2]; exact q c)
 refine A8 ?_
 refine A6 ?_
 refine AY ?_
 refine AB ?_
 refine AJ (gl_law_solid _) (kp_law_solid _) ?_
 refine A5 ?_
 refine BX ?_
 refine AJ (DD _) (DI _) ?_
 refine A5 ?_
 refine A4 rfl ?_
 refine A7 ?_
 refine CW okt w tx mD fun a => ?_
 have e1 : p + 1 = ((p.toNat + 1 : Nat) : Int) := by omega
 have e2 : p = ((p.toNat : Nat) : Int) := by omega
 refine Bs ?_
 refine AP ?_
 refine A4 rfl ?_
 refine AL ?_
 refine Cw ?_
 refine Br ?_
 rw [e1]
 refine Bc (ds := t.wds.map V.str) (by walk_at "mm") (by rw [List.length_map]; exact line_le hlen (by decide)) (.int _) .none fun c => ?_
 rw [F4 _ _ (by rw [List.length_map]; omega), ← List.map_drop]
 refine A7 ?_
 refine Ik (by walk_at "mm") (by rw [List.length_drop]; omega) fun d => ?_
 refine Af ?_
 refine A7 ?_
 refine ⟨_, _, _, _, rfl, sz_lit rfl, fun c => ?_⟩
 refine HP (by walk_at "mm") (by walk_at "mm") ?_
 rw [List.isEmpty_map]
 refine ⟨_, rfl, ?_⟩
 refine AQ (fun h => ?_) (fun h => ?_)
 ·refine A6 ?_
  refine AI ?_
  refine AH ?_
  refine AO ?_
  refine A4 rfl ?_
  refine A9 ?_
  refine D_errors ?_
  refine Aq (TyOf.list (by walk_at "mm")) F.plainAttrs_list F.slot_list_append F.type_list_append ?_
  refine A5 ?_
  (refine Ac (xs := sL ["open-elements", "in body"]) ?ha ?hb ?_; (case ha => kernel_rfl); (case hb => kernel_rfl))
  refine A7 ?_
  refine Aa (ud_errors (t.errors ++ [(openE, inBody)]) (by simp [prV]; rfl)) (by rw [List.length_map]; exact line_le w.err w.small) ?_
  refine ⟨rfl, ?_⟩
  refine A8 ?_
  have e3 : t.dclE p = t.errors ++ [(openE, inBody)] := by
   unfold St.dclE
   rw [if_neg (by cases h2 : (solid (t.wds.drop (p.toNat + 1))).isEmpty with | true => rw [h2] at h; cases h | false => decide)]
  rw [e3] at tail
  exact tail _ (List.Sublist.cons _ (List.Sublist.cons _ (List.Sublist.cons _ (List.Sublist.cons _ (List.Sublist.refl _)))))
 ·refine A8 ?_
  have e3 : t.dclE p = t.errors := by
   unfold St.dclE
   rw [if_pos (by cases h2 : (solid (t.wds.drop (p.toNat + 1))).isEmpty with | false => rw [h2] at h; cases h | true => rfl)]
  rw [e3] at tail
  exact tail _ (List.Sublist.cons _ (List.Sublist.cons _ (List.Sublist.cons _ (List.Sublist.cons _ (List.Sublist.refl _)))))
theorem Ci (w : Big t b) (q : Q .none (AS D (t.dErr BL) ++ τ)) : Fn g (k + 1) 724 [.ref D.due] (AS D t ++ τ) Q := by
 refine AN [(zs "due", .ref D.due)] (FR _) (FY _) (Fz (fun _ => by kernel_rfl) (by kernel_rfl)) (fun L => ?_) (by decide +kernel) (by kernel_rfl) (by kernel_rfl) (by kernel_rfl)
 conv in stB _ => whnf
 conv in stS _ => whnf
 refine A6 ?_
 refine AI ?_
 refine AH ?_
 refine AO ?_
 refine A4 rfl ?_
 refine A9 ?_
 refine D_errors ?_
 refine Aq (TyOf.list (by walk_at "mm")) F.plainAttrs_list F.slot_list_append F.type_list_append ?_
 refine A5 ?_
 (refine Ac (xs := sL ["unexpected-start-tag", "in body"]) ?ha ?hb ?_; (case ha => kernel_rfl); (case hb => kernel_rfl))
 refine A7 ?_
 refine Aa (ud_errors (t.errors ++ [(BL, inBody)]) (by simp [prV]; rfl)) (by rw [List.length_map]; exact line_le w.err w.small) ?_
 refine ⟨rfl, ?_⟩
 refine A8 ?_
 exact AZ (Ak ..) q
end
end Mine
namespace Mine
noncomputable def UnrT (g : G) (k : Nat) (L : Addr) (target : Expr) (env : Env) (body : List Stmt) (Q : Fl → Store → Prop) : List (List V) → Store → Loc → Store → Prop
 | [], R, m, τ => ∀ m', Sub m m' → Q .next (Fm R L m' τ)
 | ds :: r, R, m, τ => ∀ p : Addr × Cell, O1 g k EqR (Fm R L m (p :: τ)) (assign target env) (.tup ds) fun _ σ' => WS g k σ' env body fun fl σ'' => match fl with
   | .next | .cont => ∃ R' m' m'' τ', σ'' = Fm R' L m'' (p :: τ') ∧ Sub m' m'' ∧ UnrT g k L target env body Q r R' m' τ'
   | .brk => Q .next σ''
   | .ret d => Q (.ret d) σ''
theorem WX_ForU {g : G} {k : Nat} {L : Addr} {σ : Store} {env : Env} {elts : List Expr} {x1} {tp pos : Pos} {iter : Expr} {body : List Stmt} {Q : Fl → Store → Prop}
  (hi : WE g k σ env iter fun d σ' => ∃ R m τ dss, σ' = Fm R L m τ ∧ d = .tup (dss.map V.tup) ∧ UnrT g k L (.Tuple elts x1 tp) env body Q dss R m τ)
  (hs : ∀ x, foldedSetIterable iter env x = pure x := by intro _; rfl) : WX g k σ env (.For (.Tuple elts x1 tp) iter body [] pos) Q := by
 refine WX_ForT (L := L) (fun it I i R m τ => ∃ t dss, I = itTT g it t elts x1 tp dss ∧ i ≤ dss.length ∧ UnrT g k L (.Tuple elts x1 tp) env body Q (dss.drop i) R m τ) (W.mono hi fun d σ' ⟨R, m, τ, dss, e1, e2, u⟩ => ?_) ?_ ?_ ?_ hs
 ·subst e2
  exact ⟨R, m, m, τ, e1, Sub.refl _, IterT_tup fun it t => ⟨t, dss, rfl, Nat.zero_le _, u⟩⟩
 ·rintro it I i R m τ hlt ⟨t, dss, rfl, hi, u⟩
  have hlt' : i < dss.length := hlt
  rw [List.drop_eq_getElem_cons hlt'] at u
  have e : (itTT g it t elts x1 tp dss).item i = .tup dss[i] := by show V.tup (dss.getD i []) = _; rw [List.getD_eq_getElem?_getD, List.getElem?_eq_getElem hlt']; rfl
  rw [e]
  intro A r s v S iv
  refine wpAny_mono (u _ A r s v S iv) (fun x s' ⟨b, σ₂, e, S₂, k₂, q₂⟩ => ⟨b, σ₂, e, S₂, k₂, W.mono q₂ fun fl σ'' q => ?_⟩) fun _ _ e => e
  cases fl with
  | next => obtain ⟨R', m', m'', τ', a, b, c⟩ := q; exact ⟨R', m', m'', τ', a, b, t, dss, rfl, hlt', c⟩
  | cont => obtain ⟨R', m', m'', τ', a, b, c⟩ := q; exact ⟨R', m', m'', τ', a, b, t, dss, rfl, hlt', c⟩
  | brk => exact q
  | ret d => exact q
 ·rintro it I i R m τ ⟨t, dss, rfl, hi, u⟩
  exact ⟨hi, fun m' => trivial⟩
 ·rintro it I R m m' τ ⟨t, dss, rfl, hi, u⟩ hsub
  have : dss.drop (itTT g it t elts x1 tp dss).n = [] := List.drop_eq_nil_of_le (Nat.le_refl _)
  rw [this] at u
  exact u m' hsub
noncomputable def St.dUp (t : St) : Int := (t.con (match t.opn.getLast? with | some x => x | none => 0)).getD (match t.opn.getLast? with | some x => x | none => 0)
noncomputable def St.d5 (t : St) (name : Str) (a c : Addr) : St := { t with names := t.names ++ [name], spaces := t.spaces ++ [AU], aA := t.aA ++ [a], parents := t.parents ++ [t.dUp], cA := t.cA ++ [c], kinds := t.kinds ++ [Ao] }
noncomputable def St.d6 (t : St) (name : Str) (attrs : List (Str × Str)) (a c : Addr) : St := { t with names := t.names ++ [name], spaces := t.spaces ++ [AU], attrs := t.attrs ++ [attrs], aA := t.aA ++ [a], parents := t.parents ++ [t.dUp], children := t.children ++ [[]], cA := t.cA ++ [c], kinds := t.kinds ++ [Ao], texts := t.texts ++ [es] }
noncomputable def St.d7 (t : St) (u n : Int) : St := { t with children := t.children.set u.toNat (t.kid u ++ [n]) }
noncomputable def St.dput (t : St) (name : Str) (attrs : List (Str × Str)) (a c : Addr) : St := ((t.d6 name attrs a c).d7 t.dUp t.names.length).setOpn (t.opn ++ [(t.names.length : Int)])
section
variable {g : G} {k : Nat} {D : DA} {t : St} {τ σ R : Store} {Q : V → Store → Prop} {b : Nat} {L₀ : Addr} {m₀ : Loc}
theorem ud_aA {ds : List V} (x : List Addr) (h : ds = x.map V.ref) (hz : List.zipWith (fun a (ps : List (Str × Str)) => (a, Cell.list (ps.map prV))) x t.attrs = aC t) : Upd1 D.attrs (.list (t.aA.map V.ref)) (.list ds) (AS D t ++ σ) (AS D { t with aA := x } ++ σ) :=
 h ▸ Bt (D := D) (D' := D) (t := t) (t' := { t with aA := x }) (.tail (.tail (.tail (.tail (.tail .head))))) hz rfl σ
theorem ud_cA {ds : List V} (x : List Addr) (h : ds = x.map V.ref) (hz : List.zipWith (fun a (ps : List Int) => (a, Cell.list (ps.map V.int))) x t.children = cC t) : Upd1 D.children (.list (t.cA.map V.ref)) (.list ds) (AS D t ++ σ) (AS D { t with cA := x } ++ σ) :=
 h ▸ Bt (D := D) (D' := D) (t := t) (t' := { t with cA := x }) (.tail (.tail (.tail (.tail (.tail (.tail (.tail .head))))))) rfl hz σ
theorem apd_kinds {v : Str} (hz : t.kinds.length ≤ sizeLine) (q : Q .none (AS D (t.w_kinds v) ++ σ)) : Cl g k (.builtin "list.append") [.ref D.kinds, .str v] (AS D t ++ σ) Q := Aa (ud_kinds (t.kinds ++ [v]) (by simp)) (by rw [List.length_map]; exact hz) q
theorem apd_spaces {v : Str} (hz : t.spaces.length ≤ sizeLine) (q : Q .none (AS D (t.w_spaces v) ++ σ)) : Cl g k (.builtin "list.append") [.ref D.spaces, .str v] (AS D t ++ σ) Q := Aa (ud_spaces (t.spaces ++ [v]) (by simp)) (by rw [List.length_map]; exact hz) q
theorem apd_names {v : Str} (hz : t.names.length ≤ sizeLine) (q : Q .none (AS D (t.w_names v) ++ σ)) : Cl g k (.builtin "list.append") [.ref D.names, .str v] (AS D t ++ σ) Q := Aa (ud_names (t.names ++ [v]) (by simp)) (by rw [List.length_map]; exact hz) q
theorem apd_parents {v : Int} (hz : t.parents.length ≤ sizeLine) (q : Q .none (AS D (t.w_parents v) ++ σ)) : Cl g k (.builtin "list.append") [.ref D.parents, .int v] (AS D t ++ σ) Q := Aa (ud_parents (t.parents ++ [v]) (by simp)) (by rw [List.length_map]; exact hz) q
theorem apd_attrs {v : Addr} (hz : t.aA.length ≤ sizeLine) (he : t.aA.length = t.attrs.length) (q : Q .none (AS D (t.w_attrs v) ++ σ)) : Cl g k (.builtin "list.append") [.ref D.attrs, .ref v] (AS D t ++ σ) Q := Aa (ud_aA (t.aA ++ [v]) (by simp) (CI _ _ _ _ he)) (by rw [List.length_map]; exact hz) q
theorem apd_children {v : Addr} (hz : t.cA.length ≤ sizeLine) (he : t.cA.length = t.children.length) (q : Q .none (AS D (t.w_children v) ++ σ)) : Cl g k (.builtin "list.append") [.ref D.children, .ref v] (AS D t ++ σ) Q := Aa (ud_cA (t.cA ++ [v]) (by simp) (CI _ _ _ _ he)) (by rw [List.length_map]; exact hz) q
theorem fold_nodeD (ok : Ok t) {t5 : St} {name : Str} {attrs : List (Str × Str)} {a c L : Addr} {m : Loc} (h1 : Dy D t5 = Dy D (t.d6 name attrs a c)) (h2 : aC t5 = aC t) (h3 : cC t5 = cC t) :
  (Fm (AS D t5) L m ((c, .list []) :: (a, .list (attrs.map prV)) :: τ)).Perm (Fm (AS D (t.d6 name attrs a c)) L m τ) := by
 have e1 : aC (t.d6 name attrs a c) = aC t ++ [(a, .list (attrs.map prV))] := Fd _ _ _ _ _ (ok.aA.trans ok.at_.symm)
 have e2 : cC (t.d6 name attrs a c) = cC t ++ [(c, .list [])] := Fd _ _ _ _ _ (ok.cA.trans ok.ch.symm)
 unfold Fm AS
 rw [e1, e2, h1, h2, h3]
 generalize Dy D (t.d6 name attrs a c) = C
 generalize aC t = X
 generalize cC t = Y
 generalize ((a, Cell.list (attrs.map prV)) : Addr × Cell) = p
 generalize ((c, Cell.list []) : Addr × Cell) = r
 generalize ((L, Cell.ns m) : Addr × Cell) = l
 simp only [List.append_assoc]
 refine List.Perm.append_left C (List.Perm.append_left X ?_)
 refine List.Perm.trans (l₂ := p :: (Y ++ l :: r :: τ)) ?_ ?_
 ·have h1 : (l :: r :: p :: τ).Perm (p :: l :: r :: τ) := ((List.Perm.swap p r τ).cons l).trans (List.Perm.swap p l _)
  exact (List.Perm.append_left Y h1).trans List.perm_middle
 ·refine List.Perm.cons p ?_
  exact List.Perm.append_left Y (List.Perm.swap r l τ)
theorem m_dkid {x : Int} (ok : Ok t) (h0 : 0 ≤ x) (h1 : x < t.names.length) : (t.cA.getD x.toNat 0, Cell.list ((t.kid x).map V.int)) ∈ AS D t ++ σ := by
 have := m_kid (B := ⟨0, 0, 0, 0, 0, 0, 0, 0, 0, 0, 0, 0, 0, 0, 0, 0, 0, 0, 0, 0, 0, 0, 0⟩) (s := t) (τ := []) ok h0 h1
 refine List.mem_append_left _ (List.mem_append_right _ (List.mem_append_right _ ?_))
 have a1 : x.toNat < t.cA.length := by rw [ok.cA]; omega
 have a2 : x.toNat < t.children.length := by rw [ok.ch]; omega
 refine Ca _ _ _ x.toNat _ (t.kid x) ?_ ?_
 ·rw [List.getD_eq_getElem?_getD, List.getElem?_eq_getElem a1]; rfl
 ·unfold St.kid; rw [List.getD_eq_getElem?_getD, List.getElem?_eq_getElem a2]; rfl
theorem m_dat {x : Int} (ok : Ok t) (h0 : 0 ≤ x) (h1 : x < t.names.length) : (t.aA.getD x.toNat 0, Cell.list ((t.at x).map prV)) ∈ AS D t ++ σ := by
 refine List.mem_append_left _ (List.mem_append_right _ (List.mem_append_left _ ?_))
 have a1 : x.toNat < t.aA.length := by rw [ok.aA]; omega
 have a2 : x.toNat < t.attrs.length := by rw [ok.at_]; omega
 refine Ca _ _ _ x.toNat _ (t.at x) ?_ ?_
 ·rw [List.getD_eq_getElem?_getD, List.getElem?_eq_getElem a1]; rfl
 ·unfold St.at; rw [List.getD_eq_getElem?_getD, List.getElem?_eq_getElem a2]; rfl
theorem ud_kid {p n : Int} (ok : Ok t) (h0 : 0 ≤ p) (h1 : p < t.names.length) : Upd1 (t.cA.getD p.toNat 0) (.list ((t.kid p).map V.int)) (.list ((t.kid p).map V.int ++ [.int n])) (AS D t ++ σ) (AS D (t.d7 p n) ++ σ) := by
 have a1 : p.toNat < t.cA.length := by rw [ok.cA]; omega
 have a2 : p.toNat < t.children.length := by rw [ok.ch]; omega
 have := upd_zip t.cA t.children p.toNat (t.kid p) (t.kid p ++ [n]) (t.cA.getD p.toNat 0) (by rw [List.getD_eq_getElem?_getD, List.getElem?_eq_getElem a1]; rfl) (by unfold St.kid; rw [List.getD_eq_getElem?_getD, List.getElem?_eq_getElem a2]; rfl)
 rw [List.map_append, List.map_singleton] at this
 have e : ∀ s' : St, AS D s' ++ σ = Dy D s' ++ (aC s' ++ (cC s' ++ σ)) := fun s' => by unfold AS; rw [List.append_assoc, List.append_assoc]
 rw [e, e]
 exact Upd1.append_left (Upd1.append_left (this.append_right σ) (aC t)) (Dy D t)
theorem Ok.d6 (ok : Ok t) {name : Str} {attrs : List (Str × Str)} {a c : Addr} (hu : t.dUp = -1 ∨ (0 ≤ t.dUp ∧ t.dUp < t.names.length)) : Ok (t.d6 name attrs a c) := by
 have e : (t.d6 name attrs a c).names.length = t.names.length + 1 := by simp [St.d6]
 refine ⟨?_, ?_, ?_, ?_, ?_, ?_, ?_, ?_, ?_, ?_, ?_, ?_, ?_⟩
 ·simp [St.d6, ok.sp]
 ·simp [St.d6, ok.ki]
 ·simp [St.d6, ok.te]
 ·simp [St.d6, ok.at_]
 ·simp [St.d6, ok.aA]
 ·simp [St.d6, ok.pa]
 ·simp [St.d6, ok.ch]
 ·simp [St.d6, ok.cA]
 ·omega
 ·intro x hx; have := ok.opn x hx; rw [e]; omega
 ·intro x hx; have := ok.fmt x hx; rw [e]; omega
 ·intro i x hx
  have hx : (t.parents ++ [t.dUp])[i]? = some x := hx
  rw [List.getElem?_append] at hx
  split at hx
  ·exact ok.up i x hx
  ·have : ([t.dUp] : List Int)[i - t.parents.length]? = some x := hx
   cases hk : i - t.parents.length with
   | zero => rw [hk] at this; simp at this; rw [← this]; have := ok.pa; omega
   | succ n => rw [hk] at this; simp at this
 ·intro p hp; have := ok.con p hp; rw [e]; omega
theorem dUp_ok (ok : Ok t) : 0 ≤ t.dUp ∧ t.dUp < t.names.length := by
 unfold St.dUp
 have hu : 0 ≤ (match t.opn.getLast? with | some x => x | none => 0) ∧ (match t.opn.getLast? with | some x => x | none => 0) < (t.names.length : Int) := by
  cases e : t.opn.getLast? with
  | none => have := ok.pos; dsimp only; omega
  | some x => exact ok.opn x (List.mem_of_getLast? e)
 cases h : t.con (match t.opn.getLast? with | some x => x | none => 0) with
 | none => exact hu
 | some c => exact St.con_ok ok h
end
end Mine
namespace Mine
section
variable {g : G} {k : Nat} {D : DA} {t : St} {τ σ R : Store} {Q : V → Store → Prop} {b : Nat} {L₀ : Addr} {m₀ : Loc}
theorem WE_detX {env : Env} {e : Expr} {d : V} {F : Addr → Store} {Q : V → Store → Prop} (h : WE g k σ env e fun d' σ' => d' = d ∧ ∃ c, σ' = F c) (q : ∀ c, Q d (F c)) : WE g k σ env e Q :=
 W.mono h fun b σ' ⟨e1, c, e2⟩ => by subst e1; subst e2; exact q c
theorem ret_open {Q : V → Store → Prop} {D : DA} {t : St} {c L : Addr} {m : Loc} {xs : List Int} {X τ : Store} {d : V} (hX : τ.Sublist X) (q : Q d (AS (D.at c) (t.setOpn xs) ++ τ)) :
  BC Q (.ret d) ((D.due, .sdict (BY (D.at c) t)) :: (D.op, .list (t.opn.map V.int)) :: Cm D t ++ (L, .ns m) :: (c, .list (xs.map V.int)) :: X) := next_open (Q := fun _ σ => Q d σ) hX q
noncomputable def ListsTo (g : G) (D : DA) (t : St) (dA : V) (attrs : List (Str × Str)) : Prop := ∀ (k : Nat) (L : Addr) (m : Loc) (τ : Store) (Q : V → Store → Prop), (∀ a, Q (.ref a) (Fm (AS D t) L m ((a, .list (attrs.map prV)) :: τ))) → Cl g k (.type "list") [dA] (Fm (AS D t) L m τ) Q
theorem Fp {dA : V} {name : Str} {attrs : List (Str × Str)} (ok : Ok t) (w : Big t b) (hb : b + 2 ≤ 1000000) (hl : ListsTo g D t dA attrs)
  (q : ∀ e a c, Q (.int t.names.length) (AS (D.at e) (t.dput name attrs a c) ++ τ)) : Fn g (k + 1) 712 [.ref D.due, .str name, dA] (AS D t ++ τ) Q := by
 have hn := w.n
 have hs := w.small
 have z : ∀ {n : Nat}, n = t.names.length → n ≤ sizeLine := fun e => by rw [sizeLine_eq]; omega
 obtain ⟨u0, u1⟩ := dUp_ok ok
 refine AN [(zs "attrs", dA), (zs "name", .str name), (zs "due", .ref D.due)] (lk_law_put _) (cd_law_put _) (bnd3 (fun _ _ _ => by kernel_rfl) (by kernel_rfl)) (fun L => ?_) (by decide +kernel) (by kernel_rfl) (by kernel_rfl) (by kernel_rfl)
 conv in stB _ => whnf
 conv in stS _ => whnf
 refine A6 ?_
 refine AD ?_
 refine WE_detX (d := .int (match t.opn.getLast? with | some x => x | none => 0)) (F := fun c => Fm (AS D t) L [(zs "attrs", dA), (zs "name", .str name), (zs "due", .ref D.due)] ((c, .list []) :: τ)) ?_ fun c1 => ?_
 ·refine E3 ?_
  refine AB ?_
  refine AO ?_
  refine A4 rfl ?_
  refine A9 ?_
  refine EJ ?_
  refine Af ?_
  refine A7 ?_
  refine ⟨_, _, _, _, rfl, sz_lit rfl, fun c => ?_⟩
  refine HP (by walk_at "mm") (by walk_at "mm") ?_
  rw [List.isEmpty_map]
  refine ⟨_, rfl, ?_⟩
  refine AQ (fun h => ?_) (fun h => ?_)
  ·cases e : t.opn.getLast? with
   | none => rw [List.getLast?_eq_none_iff.mp e] at h; cases h
   | some x =>
    refine AO ?_
    refine AO ?_
    refine A4 rfl ?_
    refine A9 ?_
    refine EJ ?_
    refine AX ?_
    refine AL ?_
    refine B8 ?_
    refine FG (d := .int x) (by walk_at "mm") (by rw [List.getLast?_map, e]; rfl) ?_
    exact ⟨rfl, _, rfl⟩
  ·have e : t.opn = [] := by cases e : t.opn with | nil => rfl | cons _ _ => rw [e] at h; cases h
   rw [e]
   refine AL ?_
   refine ⟨rfl, ?_⟩
   exact ⟨_, rfl⟩
 refine AF ?_
 refine A6 ?_
 refine AD ?_
 refine AH ?_
 refine AO ?_
 refine A4 rfl ?_
 refine A9 ?_
 refine D_contents ?_
 refine Aq (TyOf.idict (Gf _)) F.plainAttrs_dict F.slot_dict_get F.type_dict_get ?_
 refine A5 ?_
 refine A4 rfl ?_
 refine A5 ?_
 refine A4 rfl ?_
 refine A7 ?_
 refine Cl_getI (Gf _) ?_
 rw [atI_dc]
 have eu : ((((t.contents.find? (fun e => decide (e.1 = (match t.opn.getLast? with | some x => x | none => 0)))).map (·.2)).map V.int).getD (.int (match t.opn.getLast? with | some x => x | none => 0))) = .int t.dUp := by
  unfold St.dUp St.con
  cases (t.contents.find? (fun e => decide (e.1 = (match t.opn.getLast? with | some x => x | none => 0)))).map (·.2) <;> rfl
 rw [eu]
 refine AF ?_
 refine A6 ?_
 refine AD ?_
 refine Ar (BN _) rfl (by decide) ?_
 refine A5 ?_
 refine AO ?_
 refine A4 rfl ?_
 refine A9 ?_
 refine D_names ?_
 refine A7 ?_
 refine BT (Ih _) (by rw [List.length_map]; exact z rfl) ?_
 rw [List.length_map]
 refine AF ?_
 refine A6 ?_
 refine WX_ForU (L := L) ?_
 refine Ah ?_
 refine A5 ?_
 refine Ah ?_
 refine A5 ?_
 refine A9 ?_
 refine A5 ?_
 refine A4 rfl ?_
 refine A7 ?_
 refine ⟨sz_lit rfl, ?_⟩
 refine A5 ?_
 (refine Ac (xs := sL ["spaces", "html"]) ?ha ?hb ?_; (case ha => kernel_rfl); (case hb => kernel_rfl))
 refine A5 ?_
 refine Ah ?_
 refine A5 ?_
 refine A9 ?_
 refine A5 ?_
 refine Ap (C9 _) rfl (by decide) ?_
 refine A5 ?_
 refine A4 rfl ?_
 refine A7 ?_
 refine hl _ _ _ _ _ fun a => ?_
 refine A7 ?_
 refine ⟨sz_lit rfl, ?_⟩
 refine A5 ?_
 refine Ah ?_
 refine A5 ?_
 refine A9 ?_
 refine A5 ?_
 refine A4 rfl ?_
 refine A7 ?_
 refine ⟨sz_lit rfl, ?_⟩
 refine A5 ?_
 refine Ah ?_
 refine A5 ?_
 refine A9 ?_
 refine A5 ?_
 refine Af ?_
 refine A7 ?_
 refine ⟨_, _, _, _, rfl, sz_lit rfl, fun c => ?_⟩
 refine A7 ?_
 refine ⟨sz_lit rfl, ?_⟩
 refine A7 ?_
 refine ⟨sz_lit rfl, ?_⟩
 rename Addr => kc
 refine ⟨_, _, _, [[.str (zs "names"), .str name], [.str (zs "spaces"), .str AU], [.str (zs "attrs"), .ref a], [.str (zs "parents"), .int t.dUp], [.str (zs "children"), .ref kc]], rfl, rfl, ?_⟩
 intro p
 refine C1 rfl ?_
 refine BB ?_
 refine AT ?_
 refine AF ?_
 refine BB ?_
 refine AT ?_
 refine AF ?_
 refine DJ ?_
 refine A6 ?_
 refine AI ?_
 refine AH ?_
 refine AO ?_
 refine A4 rfl ?_
 refine A4 rfl ?_
 refine D_names ?_
 refine Aq (TyOf.list (by walk_at "mm")) F.plainAttrs_list F.slot_list_append F.type_list_append ?_
 refine A5 ?_
 refine A4 rfl ?_
 refine A7 ?_
 refine apd_names (z rfl) ?_
 refine ⟨rfl, ?_⟩
 refine A8 ?_
 refine ⟨_, _, _, _, rfl, Sub.refl _, ?_⟩
 intro p
 refine C1 rfl ?_
 refine BB ?_
 refine AT ?_
 refine AF ?_
 refine BB ?_
 refine AT ?_
 refine AF ?_
 refine DJ ?_
 refine A6 ?_
 refine AI ?_
 refine AH ?_
 refine AO ?_
 refine A4 rfl ?_
 refine A4 rfl ?_
 refine D_spaces ?_
 refine Aq (TyOf.list (by walk_at "mm")) F.plainAttrs_list F.slot_list_append F.type_list_append ?_
 refine A5 ?_
 refine A4 rfl ?_
 refine A7 ?_
 refine apd_spaces (z ok.sp) ?_
 refine ⟨rfl, ?_⟩
 refine A8 ?_
 refine ⟨_, _, _, _, rfl, Sub.refl _, ?_⟩
 intro p
 refine C1 rfl ?_
 refine BB ?_
 refine AT ?_
 refine AF ?_
 refine BB ?_
 refine AT ?_
 refine AF ?_
 refine DJ ?_
 refine A6 ?_
 refine AI ?_
 refine AH ?_
 refine AO ?_
 refine A4 rfl ?_
 refine A4 rfl ?_
 refine D_attrs ?_
 refine Aq (TyOf.list (by walk_at "mm")) F.plainAttrs_list F.slot_list_append F.type_list_append ?_
 refine A5 ?_
 refine A4 rfl ?_
 refine A7 ?_
 refine apd_attrs (z ok.aA) (ok.aA.trans ok.at_.symm) ?_
 refine ⟨rfl, ?_⟩
 refine A8 ?_
 refine ⟨_, _, _, _, rfl, Sub.refl _, ?_⟩
 intro p
 refine C1 rfl ?_
 refine BB ?_
 refine AT ?_
 refine AF ?_
 refine BB ?_
 refine AT ?_
 refine AF ?_
 refine DJ ?_
 refine A6 ?_
 refine AI ?_
 refine AH ?_
 refine AO ?_
 refine A4 rfl ?_
 refine A4 rfl ?_
 refine D_parents ?_
 refine Aq (TyOf.list (by walk_at "mm")) F.plainAttrs_list F.slot_list_append F.type_list_append ?_
 refine A5 ?_
 refine A4 rfl ?_
 refine A7 ?_
 refine apd_parents (z ok.pa) ?_
 refine ⟨rfl, ?_⟩
 refine A8 ?_
 refine ⟨_, _, _, _, rfl, Sub.refl _, ?_⟩
 intro p
 refine C1 rfl ?_
 refine BB ?_
 refine AT ?_
 refine AF ?_
 refine BB ?_
 refine AT ?_
 refine AF ?_
 refine DJ ?_
 refine A6 ?_
 refine AI ?_
 refine AH ?_
 refine AO ?_
 refine A4 rfl ?_
 refine A4 rfl ?_
 refine Ii ?_
 refine Aq (TyOf.list (by walk_at "mm")) F.plainAttrs_list F.slot_list_append F.type_list_append ?_
 refine A5 ?_
 refine A4 rfl ?_
 refine A7 ?_
 refine apd_children (z ok.cA) (ok.cA.trans ok.ch.symm) ?_
 refine ⟨rfl, ?_⟩
 refine A8 ?_
 refine ⟨_, [(zs "node", .int t.names.length), (zs "up", .int t.dUp), (zs "attrs", dA), (zs "name", .str name), (zs "due", .ref D.due)], _, _, rfl, Sub.cons rfl (Sub.cons rfl (Sub.cons rfl (Sub.cons rfl (Sub.cons rfl .nil)))), ?_⟩
 intro m' hm'
 refine W.pre (σ' := Fm (AS D ((((((t.w_names name).w_spaces AU).w_attrs a).w_parents t.dUp).w_children kc))) L [(zs "node", .int t.names.length), (zs "up", .int t.dUp), (zs "attrs", dA), (zs "name", .str name), (zs "due", .ref D.due)] _) ?_ (fun h S => S.weak hm')
 have ok6 : Ok (t.d6 name attrs a kc) := ok.d6 (.inr ⟨u0, u1⟩)
 have hl6 : (t.d6 name attrs a kc).names.length = t.names.length + 1 := by simp [St.d6]
 have u1' : t.dUp < (t.d6 name attrs a kc).names.length := by rw [hl6]; omega
 have hkid : ((t.d6 name attrs a kc).kid t.dUp).length ≤ 1000000 := by
  unfold St.kid
  show (((t.children ++ [[]]) : List (List Int)).getD _ _).length ≤ _
  rw [List.getD_eq_getElem?_getD]
  cases e : (t.children ++ [[]])[t.dUp.toNat]? with
  | none => exact Nat.zero_le _
  | some y =>
   rcases List.mem_append.mp (List.mem_of_getElem? e) with h | h
   ·exact Nat.le_trans (w.chi y h) w.small
   ·rw [List.mem_singleton.mp h]; exact Nat.zero_le _
 refine A6 ?_
 refine AI ?_
 refine AH ?_
 refine AO ?_
 refine A4 rfl ?_
 refine A9 ?_
 refine D_kinds ?_
 refine Aq (TyOf.list (by walk_at "mm")) F.plainAttrs_list F.slot_list_append F.type_list_append ?_
 refine A5 ?_
 refine A9 ?_
 refine A7 ?_
 refine apd_kinds (z ok.ki) ?_
 refine ⟨rfl, ?_⟩
 refine W.pre ?_ (fun _ S => S.perm (fold_nodeD ok (name := name) (attrs := attrs) rfl (CI _ _ _ _ (ok.aA.trans ok.at_.symm)) (CI _ _ _ _ (ok.cA.trans ok.ch.symm))))
 refine A6 ?_
 refine AI ?_
 refine AH ?_
 refine AO ?_
 refine AO ?_
 refine A4 rfl ?_
 refine A9 ?_
 refine Ii ?_
 refine A4 rfl ?_
 refine Ay (d := .ref ((t.d6 name attrs a kc).cA.getD t.dUp.toNat 0)) (md_children _) u0 (by omega) (by
  have : t.dUp.toNat < (t.d6 name attrs a kc).cA.length := by rw [ok6.cA]; omega
  rw [List.getElem?_map, List.getElem?_eq_getElem this, List.getD_eq_getElem?_getD, List.getElem?_eq_getElem this]; rfl) ?_
 refine Aq (TyOf.list (m_dkid ok6 u0 u1')) F.plainAttrs_list F.slot_list_append F.type_list_append ?_
 refine A5 ?_
 refine A4 rfl ?_
 refine A7 ?_
 refine Aa (ud_kid ok6 u0 u1') (by rw [List.length_map]; exact line_le hkid (by decide)) ?_
 refine ⟨rfl, ?_⟩
 refine A6 ?_
 refine BF ?_
 refine AP ?_
 refine AO ?_
 refine A4 rfl ?_
 refine A9 ?_
 refine EJ ?_
 refine Af ?_
 refine A5 ?_
 refine A4 rfl ?_
 refine A7 ?_
 refine ⟨_, _, _, _, rfl, sz_lit rfl, fun c => ?_⟩
 refine CU (xs := t.opn.map V.int) (ys := [.int t.names.length]) (md_op _) (by walk_at "mm") (by rw [List.length_map]; exact line_le (Nat.succ_le_succ w.opn) (by omega)) fun e => ?_
 rw [show t.opn.map V.int ++ [V.int t.names.length] = (t.opn ++ [(t.names.length : Int)]).map V.int by simp]
 refine A4 rfl ?_
 refine A9 ?_
 refine EU (Fo (t := (t.d6 name attrs a kc).d7 t.dUp t.names.length)) (Nat.le_trans (Nat.le_of_ble_eq_true (by kernel_rfl : Nat.ble (BY D ((t.d6 name attrs a kc).d7 t.dUp t.names.length)).length 1000 = true)) (by rw [sizeLine_eq]; omega)) ?_
 refine A6 ?_
 refine AG ?_
 refine A4 rfl ?_
 exact ret_open (List.Sublist.cons _ (List.Sublist.cons _ (List.Sublist.refl _))) (q e a kc)
end
end Mine
namespace Mine
theorem set_last (xs : List Int) (v w : Int) : (xs ++ [v]).set xs.length w = xs ++ [w] := by
 induction xs with
 | nil => rfl
 | cons x xs ih => simp [ih]
theorem dUp_host {t : St} (ok : Ok t) (h0 : t.con 0 = none) : t.dUp = t.host := by
 unfold St.dUp St.host St.cur
 cases e : t.opn.getLast? with
 | none => rw [if_pos rfl]; dsimp only; rw [h0]; rfl
 | some x =>
  have := ok.opn x (List.mem_of_getLast? e)
  dsimp only
  rw [if_neg (by omega)]
  cases t.con x <;> rfl
theorem dput_eq {t : St} (ok : Ok t) (h0 : t.con 0 = none) (name : Str) (attrs : List (Str × Str)) (a c : Addr) : t.dput name attrs a c = t.put name attrs a c := by
 unfold St.dput St.put St.d7 St.ins St.d6 St.addN St.setOpn
 rw [dUp_host ok h0]
 have e : (t.parents ++ [(-1 : Int)]).set ((t.names.length : Nat) : Int).toNat t.host = t.parents ++ [t.host] := by
  rw [Int.toNat_natCast, ← ok.pa]; exact set_last _ _ _
 simp only [e]
 rfl
theorem reAt_max (t : St) : ∀ (n : Nat) (M : Nat), (M = 0 ∨ ∃ k, k < n ∧ M = k + 1 ∧ (t.fmt.getD k (-1) == -1 || t.opn.contains (t.fmt.getD k (-1))) = true) → (∀ k, k < n → (t.fmt.getD k (-1) == -1 || t.opn.contains (t.fmt.getD k (-1))) = true → k + 1 ≤ M) → t.reAt n = M
 | 0, M, h, _ => by
  rcases h with h | ⟨k, hk, _⟩
  ·subst h; rfl
  ·omega
 | n + 1, M, h, hb => by
  unfold St.reAt
  cases e : (t.fmt.getD n (-1) == -1 || t.opn.contains (t.fmt.getD n (-1))) with
  | true =>
   have := hb n (by omega) e
   have hM : M = n + 1 := by rcases h with h | ⟨k, hk, h, _⟩ <;> omega
   rw [if_neg (by
    rw [bne]
    cases h1 : t.fmt.getD n (-1) == -1 with
    | true => simp
    | false => rw [h1, Bool.false_or] at e; rw [e]; decide)]
   exact hM.symm
  | false =>
   rw [Bool.or_eq_false_iff] at e
   rw [if_pos (by rw [bne, e.1, e.2]; rfl)]
   refine reAt_max t n M ?_ fun k hk hh => hb k (by omega) hh
   rcases h with h | ⟨k, hk, h, hh⟩
   ·exact .inl h
   ·refine .inr ⟨k, ?_, h, hh⟩
    rcases Nat.lt_or_ge k n with q | q
    ·exact q
    ·have : k = n := by omega
     subst this
     rw [e.1, e.2] at hh; cases hh
theorem con_put (t : St) (name : Str) (attrs : List (Str × Str)) (a c : Addr) : (t.put name attrs a c).con 0 = t.con 0 := rfl
theorem Gi (A N K : Int) (h0 : 0 ≤ A) (hA : A ≤ N) (hN : N ≤ 1000000) (hK : K = N - A) : Builtin.Range.rangeSize A N 1 = K ∧ Builtin.Range.small A N 1 = true := by
 have h1 : Builtin.Range.rangeSize A N 1 = K := by
  unfold Builtin.Range.rangeSize
  rw [if_pos (by decide)]
  split
  ·rw [Int.ediv_one]; omega
  ·omega
 refine ⟨h1, ?_⟩
 unfold Builtin.Range.small
 rw [h1]
 simp only [Builtin.Range.rangeFitsLong, Bool.and_eq_true, Bool.or_eq_true, decide_eq_true_eq]
 have e : (2:Int) ^ 63 = 9223372036854775808 := by decide
 refine ⟨⟨⟨⟨?_, ?_⟩, ?_⟩, ?_⟩, ?_⟩ <;> first | decide | (constructor <;> omega) | omega | skip
 all_goals (right; rw [if_pos (by decide)]; simp only [Bool.and_eq_true, decide_eq_true_eq]; omega)
theorem Il (a n : Nat) (ha : a ≤ n) (hn : n ≤ 1000000) : Builtin.Range.rangeSize a n 1 = (n - a : Nat) ∧ Builtin.Range.small a n 1 = true := Gi _ _ _ (by omega) (by omega) (by omega) (by omega)
section
variable {g : G} {k : Nat} {D : DA} {t : St} {τ σ R : Store} {Q : V → Store → Prop} {b : Nat} {L₀ : Addr} {m₀ : Loc} {x : Int} {value slice : Expr}
theorem ListsTo_at (ok : Ok t) (w : Big t b) (h0 : 0 ≤ x) (h1 : x < t.names.length) : ListsTo g D t (.ref (t.aA.getD x.toNat 0)) (t.at x) := fun k L m τ Q q =>
 CB (m_dat ok h0 h1) (by rw [List.length_map]; exact line_le (at_len w _) w.small) q
theorem O_daA (ok : Ok t) (h0 : 0 ≤ x) (h1 : x < t.names.length) (w : Big t b) (q : Q (.ref (t.aA.getD x.toNat 0)) σ) (m : (D.attrs, Cell.list (t.aA.map V.ref)) ∈ σ) (hs : ∀ o v, subscripted slice false o v = operate [o, v] (getItem o v) := by intro _ _; with_unfolding_all rfl) :
  O2 g k Is σ (subscriptTail value slice) (.ref D.attrs) (.int x) Q := Ay m h0 (int63 h1 w.n w.small) (by
   have : x.toNat < t.aA.length := by rw [ok.aA]; omega
   rw [List.getElem?_map, List.getElem?_eq_getElem this, List.getD_eq_getElem?_getD, List.getElem?_eq_getElem this]; rfl) q hs
inductive RoI (g : G) (D : DA) (t : St) (b : Nat) (τ : Store) (L it : Addr) (I : It g it) (i : Nat) (R : Store) (m : Loc) (τ' : Store) : Prop
 | mk (t1 : St) (e : Addr) (X : Store) (h0 : I = itR g it ((t.reAt t.fmt.length : Nat) : Int) 1 (t.fmt.length - t.reAt t.fmt.length)) (h1 : i ≤ t.fmt.length - t.reAt t.fmt.length) (h2 : R = AS (D.at e) t1) (h3 : m = []) (h4 : τ' = X ++ (L + 1 + 1, .cell (some (.ref D.li))) :: (L + 1, .cell (some (.ref D.due))) :: τ) (h5 : Ok t1) (h6 : Big t1 (b + 2 * i)) (h7 : t1.con 0 = none) (h8 : t1.fmt.length = t.fmt.length) (h9 : ∀ j, t.reAt t.fmt.length + i ≤ j → j < t.fmt.length → t1.fmt.getD j (-1) ≠ -1) (h10 : (t1.reGo (t.reAt t.fmt.length + i) (t.fmt.length - t.reAt t.fmt.length - i)).noA = t.recon.noA) : RoI g D t b τ L it I i R m τ'
theorem HD (ok : Ok t) (w : Big t b) (hc0 : t.con 0 = none) (hb : b + 2 * t.fmt.length + 2 ≤ 1000000)
  (q : ∀ e t', t'.noA = t.recon.noA → Ok t' → Big t' (b + 2 * t.fmt.length) → Q .none (AS (D.at e) t' ++ τ)) : Fn g (k + 2) 717 [.ref D.due] (AS D t ++ τ) Q := by
 have hz := Nat.le_trans w.fmt w.small
 refine CT (R := AS D t) [(zs "due", .ref D.due)] [] (fun L => [(L + 1 + 1, .cell none), (L + 1, .cell (some (.ref D.due)))]) (lk_law_reopen _) (cd_law_reopen _) (fun h vs i => by cases i with | cons i1 i => cases i; exact ⟨_, rfl, .cons i1 .nil, by kernel_rfl⟩) rfl (fun L => rfl) (by decide +kernel) (fun L => by kernel_rfl) (fun L => ?_) (by kernel_rfl) (by kernel_rfl) (by kernel_rfl)
 conv in stB _ => whnf
 conv in stS _ => whnf
 refine A6 ?_
 refine AD ?_
 refine AO ?_
 refine Al rfl (by walk_at "mm") ?_
 refine A9 ?_
 refine D_list ?_
 refine O_sc0 rfl ?_
 refine A6 ?_
 (refine DT (cl := _) ?hsw rfl (by decide) rfl (by decide) rfl ?_; (case hsw => with_unfolding_all rfl))
 refine Ap (DU _) rfl (by decide) ?_
 refine A5 ?_
 refine Ar (BN _) rfl (by decide) ?_
 refine A5 ?_
 refine Al rfl (by walk_at "mm") ?_
 refine A7 ?_
 refine BT (md_li _) (by rw [List.length_map]; exact line_le w.fmt w.small) ?_
 rw [List.length_map]
 refine A7 ?_
 refine G3 fun r => ?_
 refine Gg (fun i => t.fmt.getD i (-1) == -1 || t.opn.contains (t.fmt.getD i (-1))) (fun i => .int ((i : Int) + 1)) (by walk_at "mm") hz (fun i hi C τ' => ?_) (fun i hi hp C τ' => ?_) (fun a2 => ?_)
 ·refine GS ?_
  refine AB ?_
  refine AO ?_
  refine Al rfl (by walk_at "mm") ?_
  refine A4 rfl ?_
  refine Ay (ds := t.fmt.map V.int) (by walk_at "mm") (by omega) (by omega) (fItem hi rfl) ?_
  refine AX ?_
  refine AL ?_
  refine B8 ?_
  refine CX ?_
  refine ⟨_, rfl, ?_⟩
  refine AQ (fun h => ?_) (fun h => ?_)
  ·exact ⟨by rw [h]; rfl, rfl⟩
  ·refine F0 ?_
   refine AB ?_
   refine AO ?_
   refine Al rfl (by walk_at "mm") ?_
   refine A4 rfl ?_
   refine Ay (ds := t.fmt.map V.int) (by walk_at "mm") (by omega) (by omega) (fItem hi rfl) ?_
   refine AO ?_
   refine Al rfl (by walk_at "mm") ?_
   refine A9 ?_
   refine BH (by walk_at "mm") (e := .ref D.op) (by kernel_rfl) ?_
   refine O_inLI (xs := t.opn) (by walk_at "mm") ?_
   refine ⟨_, rfl, ?_⟩
   exact ⟨by rw [h, Bool.false_or], rfl⟩
 ·refine AP ?_
  refine A4 rfl ?_
  refine AL ?_
  refine Cw ?_
  refine ⟨rfl, ?_⟩
  rfl
 refine ⟨_, _, _, rfl, ?_⟩
 have eh : ((List.range t.fmt.length).filter fun i => t.fmt.getD i (-1) == -1 || t.opn.contains (t.fmt.getD i (-1))).map (fun i : Nat => V.int ((i : Int) + 1)) = (((List.range t.fmt.length).filter fun i => t.fmt.getD i (-1) == -1 || t.opn.contains (t.fmt.getD i (-1))).map (fun i : Nat => (i : Int) + 1)).map V.int := by rw [List.map_map]; rfl
 rw [eh]
 have hlen : (((List.range t.fmt.length).filter fun i => t.fmt.getD i (-1) == -1 || t.opn.contains (t.fmt.getD i (-1))).map (fun i : Nat => (i : Int) + 1)).length ≤ 1000000 := by
  rw [List.length_map]; exact Nat.le_trans (List.length_filter_le _ _) (by rw [List.length_range]; exact hz)
 have hmem : ∀ z : Int, z ∈ (((List.range t.fmt.length).filter fun i => t.fmt.getD i (-1) == -1 || t.opn.contains (t.fmt.getD i (-1))).map (fun i : Nat => (i : Int) + 1)) ↔ ∃ i : Nat, i < t.fmt.length ∧ (t.fmt.getD i (-1) == -1 || t.opn.contains (t.fmt.getD i (-1))) = true ∧ (i : Int) + 1 = z := fun z => by
  simp only [List.mem_map, List.mem_filter, List.mem_range, and_assoc]
 generalize (((List.range t.fmt.length).filter fun i => t.fmt.getD i (-1) == -1 || t.opn.contains (t.fmt.getD i (-1))).map (fun i : Nat => (i : Int) + 1)) = hs at hlen hmem ⊢
 refine A6 ?_
 refine Dl (L := L) (RoI g D t b τ L) ?_ ?_ ?_ ?_
 ·refine Ap (DU _) rfl (by decide) ?_
  refine A5 ?_
  refine Ar (gl_max _) rfl (by decide) ?_
  refine A5 ?_
  refine AP ?_
  refine Af ?_
  refine A5 ?_
  refine AL ?_
  refine A7 ?_
  refine ⟨_, _, _, _, rfl, sz_lit rfl, fun c => ?_⟩
  refine A4 rfl ?_
  refine CU (xs := [.int 0]) (ys := hs.map V.int) (by walk_at "mm") (by walk_at "mm") (by rw [List.length_map]; rw [sizeLine_eq]; simp; omega) fun c2 => ?_
  refine A7 ?_
  refine Cl_max (ns := 0 :: hs) (by walk_at "mm") (by simp) fun M hM hmax => ?_
  have hM0 : 0 ≤ M := hmax 0 (.head _)
  have hre : t.reAt t.fmt.length = M.toNat := by
   refine reAt_max t _ _ ?_ fun k hk hh => ?_
   ·rcases List.mem_cons.mp hM with e | e
    ·left; omega
    ·obtain ⟨i, hi, hp, e⟩ := (hmem M).mp e
     exact .inr ⟨i, hi, by omega, hp⟩
   ·have := hmax _ (List.mem_cons_of_mem _ ((hmem _).mpr ⟨k, hk, hh, rfl⟩))
    omega
  have hle := t.reAt_le t.fmt.length
  have eM : M = ((t.reAt t.fmt.length : Nat) : Int) := by omega
  rw [eM]
  refine A5 ?_
  refine Ar (BN _) rfl (by decide) ?_
  refine A5 ?_
  refine Al rfl (by walk_at "mm") ?_
  refine A7 ?_
  refine BT (md_li _) (by rw [List.length_map]; exact line_le w.fmt w.small) ?_
  rw [List.length_map]
  refine A7 ?_
  refine Cl_range2 fun r2 => ?_
  refine ⟨_, [], _, _, rfl, .nil, CY (by walk_at "mm") (Il _ _ hle hz).2 (Il _ _ hle hz).1 fun it => ⟨t, D.op, [_, _, _, _, _], rfl, Nat.zero_le _, rfl, rfl, rfl, ok, w, hc0, rfl, fun j h1 h2 => t.reAt_neg _ j h1 h2, rfl⟩⟩
 ·rintro it I i R m τ' hlt ⟨t1, e, X, rfl, hi, rfl, rfl, rfl, ok1, w1, hc1, hl1, hf1, hg⟩
  have hlt' : i < t.fmt.length - t.reAt t.fmt.length := hlt
  have hj : t.reAt t.fmt.length + i < t1.fmt.length := by omega
  have f1 := hf1 _ (Nat.le_refl _) (by omega)
  obtain ⟨r0, r1⟩ := fmt_rng ok1 hj f1
  have ei : (itR g it ((t.reAt t.fmt.length : Nat) : Int) 1 (t.fmt.length - t.reAt t.fmt.length)).item i = .int ((t.reAt t.fmt.length + i : Nat) : Int) := by
   show V.int _ = _
   congr 1; omega
  rw [ei]
  generalize hjj : t.reAt t.fmt.length + i = j at hj f1 r0 r1 hg ⊢
  refine AT ?_
  refine AF ?_
  refine A6 ?_
  refine BF ?_
  refine AJ (HY _) (IH _) ?_
  refine A5 ?_
  refine Al rfl (by walk_at "mm") ?_
  refine A5 ?_
  refine AO ?_
  refine AO ?_
  refine Al rfl (by walk_at "mm") ?_
  refine A9 ?_
  refine D_names ?_
  refine AO ?_
  refine Al rfl (by walk_at "mm") ?_
  refine A4 rfl ?_
  refine Ay (md_li (D := D.at e) (t := t1) _) (by omega) (by omega) (fItem hj rfl) ?_
  refine O_dna ok1 r0 r1 w1 ?_ (Ih _)
  refine A5 ?_
  refine AO ?_
  refine AO ?_
  refine Al rfl (by walk_at "mm") ?_
  refine A9 ?_
  refine D_attrs ?_
  refine AO ?_
  refine Al rfl (by walk_at "mm") ?_
  refine A4 rfl ?_
  refine Ay (md_li (D := D.at e) (t := t1) _) (by omega) (by omega) (fItem hj rfl) ?_
  refine O_daA ok1 r0 r1 w1 ?_ (md_attrs _)
  refine A7 ?_
  refine Fp (D := D.at e) ok1 w1 (by omega) (ListsTo_at ok1 w1 r0 r1) fun e2 a c => ?_
  rw [dput_eq ok1 hc1]
  refine Al rfl (by walk_at "mm") ?_
  refine A4 rfl ?_
  refine O_setL (ud_li (D := D.at e2) (t := t1.put (t1.na (t1.fmt.getD j (-1))) (t1.at (t1.fmt.getD j (-1))) a c) (t1.fmt.set j t1.names.length) (by rw [List.map_set]; rfl)) (by omega) (by omega) (by rw [List.length_map]; exact hj) ?_
  refine A8 ?_
  refine ⟨_, [], _, _, rfl, .nil, t1.reOne j a c, e2, X, rfl, hlt', rfl, rfl, rfl, ok1.reOne, (w1.reOne (by omega)).up (by omega) (by omega), hc1, by show (t1.fmt.set _ _).length = _; rw [List.length_set]; exact hl1, fun l h1 h2 => ?_, ?_⟩
  ·have e : (t1.reOne j a c).fmt.getD l (-1) = t1.fmt.getD l (-1) := DK (by omega)
   rw [e]
   exact hf1 l (by omega) h2
  ·rw [St.reGo_noA, St.reOne_noA, ← St.reOne_noA t1 j 0 0, ← St.reGo_noA, ← hg]
   rw [show t.fmt.length - t.reAt t.fmt.length - i = (t.fmt.length - t.reAt t.fmt.length - (i + 1)) + 1 by omega, show t.reAt t.fmt.length + (i + 1) = j + 1 by omega]
   rfl
 ·rintro it I i R m τ' ⟨t1, e, X, rfl, hi, rfl, rfl, rfl, h⟩
  exact ⟨hi, fun m' => trivial⟩
 ·rintro it I R m m' τ' ⟨t1, e, X, rfl, hi, rfl, rfl, rfl, ok1, w1, hc1, hl1, hf1, hg⟩ hsub
  refine A8 ?_
  have hn : (itR g it ((t.reAt t.fmt.length : Nat) : Int) 1 (t.fmt.length - t.reAt t.fmt.length)).n = t.fmt.length - t.reAt t.fmt.length := rfl
  rw [hn] at hg w1
  rw [Nat.sub_self] at hg
  refine ⟨_, _, List.Sublist.append_left (List.Sublist.cons _ ((List.Sublist.cons _ (List.Sublist.cons _ (List.Sublist.refl τ))).trans (List.sublist_append_right X _))) _, .refl _, q e t1 hg ok1 (w1.up (by omega) (by omega))⟩
end
end Mine
namespace Mine
section
variable {g : G} {k : Nat} {σ : Store} {env : Env} {Q : V → Store → Prop} {R τ : Store} {L : Addr} {m : Loc}
theorem comp_range {elt : Expr} {x : Str} {scope : Scope} {cl : List (Str × Addr)} {rg : Addr} {A N : Int} {n : Nat} (f : Nat → V) (hm : (rg, Cell.pr (rngP A N 1)) ∈ Fm R L m τ) (h0 : 0 ≤ A) (hA : A ≤ N) (hN : N ≤ 1000000) (hK : (n : Int) = N - A)
  (turn : ∀ i, i < n → ∀ C τ', WE g k (Fm (Fm R L m τ) C [(x, .int (A + (i : Nat)))] τ') (compEnvC scope cl C env) elt fun d' σ' => d' = f i ∧ σ' = Fm (Fm R L m τ) C [(x, .int (A + (i : Nat)))] τ')
  (q : ∀ a, Q (.ref a) (Fm R L m ((a, .list ((List.range n).map f)) :: τ))) : Cg g k (Fm R L m τ) env elt x [] scope cl (.ref rg) Q := by
 obtain ⟨hs1, hs2⟩ := Gi A N n h0 hA hN hK
 refine ⟨R, L, m, τ, rfl, fun it I i ds X => I = itR g it A 1 n ∧ i ≤ n ∧ ds = (List.range i).map f ∧ X = [], CY hm hs2 hs1 fun it => ⟨⟨rfl, Nat.zero_le _, rfl, rfl⟩, itR_self _ _ _ _⟩, ?_, ?_, ?_⟩
 ·rintro it I i ds X ⟨rfl, hi, rfl, rfl⟩
  refine ⟨hi, ?_, fun C m' D => trivial⟩
  have hi : i ≤ n := hi
  rw [List.length_map, List.length_range, sizeLine_eq]; omega
 ·rintro it I i ds X C D hlt ⟨rfl, hi, rfl, rfl⟩
  have hlt' : i < n := hlt
  have e : (itR g it A 1 n).item i = .int (A + i) := by show V.int (A + i * 1) = _; rw [Int.mul_one]
  rw [e]
  refine ifs0 (DY rfl ?_)
  refine W.mono (turn i hlt' C _) fun d' σ' ⟨e1, e2⟩ => ?_
  subst e1; subst e2
  refine ⟨[], _, rfl, rfl, hlt', ?_, rfl⟩
  rw [List.range_succ, List.map_append]; rfl
 ·rintro it I ds X D ⟨rfl, hi, rfl, rfl⟩
  exact q D
end
theorem lastS {ws : List Str} (h : ws ≠ []) : (ws.map V.str).getLast? = some (V.str (ws.getLastD es)) := by
 rw [List.getLast?_map, List.getLast?_eq_some_getLast h, List.getLastD_eq_getLast?, List.getLast?_eq_some_getLast h]; rfl
theorem Txt.of {s t : St} (h : Txt s) (h1 : t.names = s.names) (h2 : t.spaces = s.spaces) : Txt t := ⟨h1 ▸ h.n, h2 ▸ h.sp⟩
theorem Ok.dclose {t : St} (ok : Ok t) {ns : List Str} {sort : Str} : Ok (t.dclose ns sort) := by
 unfold St.dclose; split
 ·exact ok
 ·exact ok.oe fun x hx => List.mem_of_mem_take hx
theorem dclE_len (t : St) (p : Int) : (t.dclE p).length ≤ t.errors.length + 1 := by unfold St.dclE; split <;> simp
theorem Big.dclose {t : St} {b : Nat} (w : Big t b) (hb : b + 1 ≤ 1000000) {ns : List Str} {sort : Str} : Big (t.dclose ns sort) (b + 1) := by
 unfold St.dclose; split
 ·exact w.up (by omega) hb
 ·exact w.oe ((by rw [List.length_take]; omega)) (dclE_len _ _) hb
theorem Fq (t : St) (ns : List Str) (sort : Str) : (t.dclose ns sort).names = t.names ∧ (t.dclose ns sort).spaces = t.spaces ∧ (t.dclose ns sort).fmt = t.fmt ∧ (t.dclose ns sort).con 0 = t.con 0 := by unfold St.dclose; split <;> exact ⟨rfl, rfl, rfl, rfl⟩
theorem Txt.dclose {t : St} (h : Txt t) {ns : List Str} {sort : Str} : Txt (t.dclose ns sort) := h.of (Fq _ _ _).1 (Fq _ _ _).2.1
theorem Ok.dErr {t : St} (ok : Ok t) {e : Str} : Ok (t.dErr e) := ⟨ok.sp, ok.ki, ok.te, ok.at_, ok.aA, ok.pa, ok.ch, ok.cA, ok.pos, ok.opn, ok.fmt, ok.up, ok.con⟩
theorem Big.dErr {t : St} {b : Nat} (w : Big t b) (hb : b + 1 ≤ 1000000) {e : Str} : Big (t.dErr e) (b + 1) := w.oe (o := t.opn) (Nat.le_refl _) (by rw [List.length_append]; exact Nat.le_refl _) hb
noncomputable def headW : List Str := sL ["html:h1", "html:h2", "html:h3", "html:h4", "html:h5", "html:h6"]
noncomputable def ddL : List Str := sL ["dd", "dt"]
noncomputable def liW : List Str := sL ["html:li"]
noncomputable def ddW : List Str := sL ["html:dd", "html:dt"]
noncomputable def pW : List Str := sL ["html:p"]
noncomputable def btnW : List Str := sL ["html:button"]
noncomputable def Gj : Str := zs "html:"
noncomputable def Au : Str := zs "table"
noncomputable def bxL : List Str := sL ["button", "xmp"]
noncomputable def St.d1 (t : St) (name : Str) : St := if name == zs "li" then t.dclose liW CM else t
noncomputable def St.d2 (t : St) (name : Str) : St := if ddL.contains name then t.dclose ddW CM else t
noncomputable def St.btnP (t : St) : Int := Av t.wds btnW es
noncomputable def St.d3 (t : St) (name : Str) (quirks : Int) : St :=
 if name == buttonS then (if decide (t.btnP ≥ 0) then (t.dErr BL).setOpn (t.opn.take t.btnP.toNat) else t) else if name != Au || decide (quirks < 2) then t.dclose pW buttonS else t
noncomputable def St.isHdD (t : St) (name : Str) : Bool := headW.contains (Gj ++ name) && (!t.opn.isEmpty && headW.contains (t.wds.getLastD es))
noncomputable def St.d4' (t : St) (name : Str) : St := if t.isHdD name then (t.dErr BL).setOpn t.opn.dropLast else t
noncomputable def St.dpre (t : St) (name : Str) (quirks : Int) : St := (((t.d1 name).d2 name).d3 name quirks).d4' name
noncomputable def St.dahead (t : St) (name : Str) (quirks : Int) : St := if bxL.contains name then (t.dpre name quirks).recon else t.dpre name quirks
structure Good (t : St) (b : Nat) (F : List Int) : Prop where
 ok : Ok t
 w : Big t b
 tx : Txt t
 f : t.fmt = F
 c0 : t.con 0 = none
theorem Good.up {t : St} {b b' : Nat} {F : List Int} (h : Good t b F) (hb : b ≤ b') (h2 : b' ≤ 1000000) : Good t b' F := ⟨h.ok, h.w.up hb h2, h.tx, h.f, h.c0⟩
theorem Good.dclose {t : St} {b : Nat} {F : List Int} (h : Good t b F) (hb : b + 1 ≤ 1000000) {ns : List Str} {sort : Str} : Good (t.dclose ns sort) (b + 1) F :=
 ⟨h.ok.dclose, h.w.dclose hb, h.tx.dclose, (Fq _ _ _).2.2.1.trans h.f, (Fq _ _ _).2.2.2.trans h.c0⟩
theorem Good.d1 {t : St} {b : Nat} {F : List Int} (h : Good t b F) (hb : b + 1 ≤ 1000000) {name : Str} : Good (t.d1 name) (b + 1) F := by unfold St.d1; split; exact h.dclose hb; exact h.up (by omega) hb
theorem Good.d2 {t : St} {b : Nat} {F : List Int} (h : Good t b F) (hb : b + 1 ≤ 1000000) {name : Str} : Good (t.d2 name) (b + 1) F := by unfold St.d2; split; exact h.dclose hb; exact h.up (by omega) hb
theorem Good.errO {t : St} {b : Nat} {F : List Int} (h : Good t b F) (hb : b + 1 ≤ 1000000) {e : Str} {o : List Int} (ho : ∀ x ∈ o, x ∈ t.opn) (hl : o.length ≤ t.opn.length) : Good ((t.dErr e).setOpn o) (b + 1) F :=
 ⟨h.ok.dErr.setOpn ho, (h.w.dErr hb).setOpn hl, h.tx.of rfl rfl, h.f, h.c0⟩
theorem Good.d3 {t : St} {b : Nat} {F : List Int} (h : Good t b F) (hb : b + 1 ≤ 1000000) {name : Str} {quirks : Int} : Good (t.d3 name quirks) (b + 1) F := by
 unfold St.d3; split
 ·split
  ·exact h.errO hb (fun x hx => List.mem_of_mem_take hx) ((by rw [List.length_take]; omega))
  ·exact h.up (by omega) hb
 ·split
  ·exact h.dclose hb
  ·exact h.up (by omega) hb
theorem Good.d4' {t : St} {b : Nat} {F : List Int} (h : Good t b F) (hb : b + 1 ≤ 1000000) {name : Str} : Good (t.d4' name) (b + 1) F := by
 unfold St.d4'; split
 ·exact h.errO hb (fun x hx => List.dropLast_subset _ hx) (by rw [List.length_dropLast]; omega)
 ·exact h.up (by omega) hb
section
variable {g : G} {k : Nat} {D : DA} {t : St} {τ σ R : Store} {Q : V → Store → Prop} {b : Nat} {L₀ : Addr} {m₀ : Loc} {F : List Int}
theorem Im {name : Str} {quirks : Int} (h : Good t b F) (hnm : name.length ≤ 100) (hb : b + 2 * F.length + 8 ≤ 1000000)
  (q : ∀ e t', t'.noA = (t.dahead name quirks).noA → Ok t' → Big t' (b + 2 * F.length + 4) → Q .none (AS (D.at e) t' ++ τ)) : Fn g (k + 4) 729 [.ref D.due, .str name, .int quirks] (AS D t ++ τ) Q := by
 refine AN [(zs "quirks", .int quirks), (zs "name", .str name), (zs "due", .ref D.due)] (lk_law_ahead _) (cd_law_ahead _) (bnd3 (fun _ _ _ => by kernel_rfl) (by kernel_rfl)) (fun L => ?_) (by decide +kernel) (by kernel_rfl) (by kernel_rfl) (by kernel_rfl)
 conv in stB _ => whnf
 conv in stS _ => whnf
 have t5 : ∀ (e : Addr) (t' : St) (X : Store) (m : Loc), t' = t.dpre name quirks → Good t' (b + 4) F → τ.Sublist X → Sub [(zs "name", .str name), (zs "due", .ref D.due)] m → W g (k + 3) IsFl (Fm (AS (D.at e) t') L m X) (execs ((stB (tS 59)).drop 5) (envOf (zs "_law_ahead") (stS (tS 59)) L 729 (.ref 728))) (BC Q) := by
  intro e t' X m e4 h4 hX hm
  subst e4
  refine W.pre ?_ (fun h S => S.weak hm)
  conv in stB _ => whnf
  conv in stS _ => whnf
  show WS g (k + 3) _ _ [_] _
  unfold St.dahead at q
  refine A6 ?_
  refine AY ?_
  refine AB ?_
  refine A4 rfl ?_
  (refine Ac (xs := sL ["button", "xmp"]) ?ha ?hb ?_; (case ha => kernel_rfl); (case hb => kernel_rfl))
  refine BK ?_
  refine ⟨_, rfl, ?_⟩
  refine AQ (fun h => ?_) (fun h => ?_)
  ·rw [if_pos (show bxL.contains name = true from h)] at q
   refine A6 ?_
   refine AI ?_
   refine AJ (gl_law_reopen _) (kp_law_reopen _) ?_
   refine A5 ?_
   refine A4 rfl ?_
   refine A7 ?_
   refine HD (D := D.at e) h4.ok h4.w h4.c0 (by rw [h4.f]; omega) fun e' t'' e1 ok' w' => ?_
   refine ⟨rfl, ?_⟩
   refine A8 ?_
   refine A8 ?_
   rw [h4.f] at w'
   exact ⟨_, _, List.Sublist.append_left (List.Sublist.cons _ hX) _, .refl _, q e' t'' e1 ok' (w'.up (by omega) (by omega))⟩
  ·rw [if_neg (show ¬ bxL.contains name = true by rw [show bxL.contains name = false from h]; decide)] at q
   refine A8 ?_
   refine A8 ?_
   exact ⟨_, _, List.Sublist.append_left (List.Sublist.cons _ hX) _, .refl _, q e _ rfl h4.ok (h4.w.up (by omega) (by omega))⟩
 have t4 : ∀ (e hd : Addr) (t' : St) (X : Store) (m : Loc), t' = ((t.d1 name).d2 name).d3 name quirks → Good t' (b + 3) F → τ.Sublist X → (hd, Cell.list (headW.map V.str)) ∈ X → Sub [(zs "headings", .ref hd), (zs "name", .str name), (zs "due", .ref D.due)] m → W g (k + 3) IsFl (Fm (AS (D.at e) t') L m X) (execs ((stB (tS 59)).drop 4) (envOf (zs "_law_ahead") (stS (tS 59)) L 729 (.ref 728))) (BC Q) := by
  intro e hd t' X m e4 h4 hX hh hm
  subst e4
  refine W.pre ?_ (fun h S => S.weak hm)
  conv in stB _ => whnf
  conv in stS _ => whnf
  show WS g (k + 3) _ _ [_, _] _
  refine A6 ?_
  refine AY ?_
  refine BO ?_
  refine AB ?_
  refine AP ?_
  refine A9 ?_
  refine A4 rfl ?_
  refine O_addS (by have : (Gj).length = 5 := rfl; rw [show zs "html:" = Gj from rfl, this, sizeLine_eq]; omega) ?_
  refine A4 rfl ?_
  refine Et (xs := headW) (by walk_at "mm") ?_
  refine ⟨_, rfl, ?_⟩
  have sb : Sub [(zs "name", V.str name), (zs "due", .ref D.due)] [(zs "headings", .ref hd), (zs "name", .str name), (zs "due", .ref D.due)] := .cons (by kernel_rfl) (.cons (by kernel_rfl) .nil)
  have hno : ∀ Y : Store, X.Sublist Y → (((t.d1 name).d2 name).d3 name quirks).isHdD name = false → W g (k + 3) IsFl (Fm (AS (D.at e) (((t.d1 name).d2 name).d3 name quirks)) L [(zs "headings", .ref hd), (zs "name", .str name), (zs "due", .ref D.due)] Y) (execs ((stB (tS 59)).drop 5) (envOf (zs "_law_ahead") (stS (tS 59)) L 729 (.ref 728))) (BC Q) := fun Y hY hf => by
   refine t5 e _ Y _ ?_ (h4.up (by omega) (by omega)) (hX.trans hY) sb
   unfold St.dpre St.d4'
   rw [if_neg (by rw [hf]; decide)]
  refine AQ (fun h1 => ?_) (fun h1 => ?_)
  ·refine BO ?_
   refine AB ?_
   refine AO ?_
   refine A4 rfl ?_
   refine A9 ?_
   refine EJ ?_
   refine Af ?_
   refine A7 ?_
   refine ⟨_, _, _, _, rfl, sz_lit rfl, fun c => ?_⟩
   refine HP (by walk_at "mm") (by walk_at "mm") ?_
   rw [List.isEmpty_map]
   refine ⟨_, rfl, ?_⟩
   refine AQ (fun h2 => ?_) (fun h2 => ?_)
   ·refine Bi ?_
    refine AB ?_
    refine AO ?_
    refine AJ (DD _) (DI _) ?_
    refine A5 ?_
    refine A4 rfl ?_
    refine A7 ?_
    refine CW (D := D.at e) h4.ok h4.w h4.tx (fun p hp => List.mem_append_left _ hp) fun a => ?_
    refine AX ?_
    refine AL ?_
    refine B8 ?_
    have hne : (((t.d1 name).d2 name).d3 name quirks).wds ≠ [] := by
     intro e; unfold St.wds at e; rw [List.map_eq_nil_iff] at e; rw [e] at h2; cases h2
    refine FG (d := .str ((((t.d1 name).d2 name).d3 name quirks).wds.getLastD es)) (by walk_at "mm") (lastS hne) ?_
    refine A4 rfl ?_
    refine Et (xs := headW) (by walk_at "mm") ?_
    refine ⟨_, rfl, ?_⟩
    refine AQ (fun h3 => ?_) (fun h3 => ?_)
    ·refine A6 ?_
     refine AI ?_
     refine AJ (C8 _) (CG _) ?_
     refine A5 ?_
     refine A4 rfl ?_
     refine A7 ?_
     have hh : (((t.d1 name).d2 name).d3 name quirks).isHdD name = true := by
      unfold St.isHdD; rw [show headW.contains (Gj ++ name) = true from h1, h2, h3]; rfl
     refine Ci (D := D.at e) h4.w ?_
     refine ⟨rfl, ?_⟩
     refine A6 ?_
     refine BF ?_
     refine BX ?_
     refine AO ?_
     refine A4 rfl ?_
     refine A9 ?_
     refine EJ ?_
     refine Br ?_
     refine Bs ?_
     refine AX ?_
     refine AL ?_
     refine B8 ?_
     refine Bc (ds := (((t.d1 name).d2 name).d3 name quirks).opn.map V.int) (lo := none) (hi := some (-1)) (md_op (D := D.at e) (t := St.dErr _ _) _) (by rw [List.length_map]; exact line_le h4.w.opn h4.w.small) .none (.int _) fun c => ?_
     rw [Id, ← List.map_dropLast]
     refine A4 rfl ?_
     refine A9 ?_
     refine EU (Fo (D := D.at e) (t := St.dErr _ _)) (Nat.le_trans (Nat.le_of_ble_eq_true (by kernel_rfl : Nat.ble (BY (D.at e) ((((t.d1 name).d2 name).d3 name quirks).dErr BL)).length 1000 = true)) (by rw [sizeLine_eq]; omega)) ?_
     refine A8 ?_
     refine W.pre ?_ (fun h S => GM S)
     refine t5 c _ _ _ ?_ ?_ ?_ sb
     ·unfold St.dpre St.d4'
      rw [if_pos hh]
     ·exact h4.errO (by omega) (fun x hx => List.dropLast_subset _ hx) (by rw [List.length_dropLast]; omega)
     ·exact hX.trans (List.Sublist.cons _ (List.Sublist.cons _ (List.Sublist.refl _)))
    ·refine A8 ?_
     refine hno _ ?_ ?_
     ·exact List.Sublist.cons _ (List.Sublist.cons _ (List.Sublist.refl _))
     ·unfold St.isHdD; rw [h2, h3, Bool.and_false, Bool.and_false]
   ·refine CH rfl ?_
    refine A8 ?_
    refine hno _ (List.Sublist.cons _ (List.Sublist.refl _)) ?_
    unfold St.isHdD; rw [h2, Bool.false_and, Bool.and_false]
  ·refine CH rfl ?_
   refine A8 ?_
   refine hno _ (List.Sublist.refl _) ?_
   unfold St.isHdD; rw [show headW.contains (Gj ++ name) = false from h1, Bool.false_and]
 have t3 : ∀ (e hd : Addr) (t' : St) (X : Store) (m : Loc), t' = (t.d1 name).d2 name → Good t' (b + 2) F → τ.Sublist X → (hd, Cell.list (headW.map V.str)) ∈ X → Sub [(zs "headings", V.ref hd), (zs "quirks", .int quirks), (zs "name", .str name), (zs "due", .ref D.due)] m → W g (k + 3) IsFl (Fm (AS (D.at e) t') L m X) (execs ((stB (tS 59)).drop 3) (envOf (zs "_law_ahead") (stS (tS 59)) L 729 (.ref 728))) (BC Q) := by
  intro e hd t' X m e4 h4 hX hh hm
  refine W.pre ?_ (fun h S => S.weak hm)
  conv in stB _ => whnf
  conv in stS _ => whnf
  show WS g (k + 3) _ _ [_, _, _] _
  have sb : Sub [(zs "headings", V.ref hd), (zs "name", .str name), (zs "due", .ref D.due)] [(zs "headings", V.ref hd), (zs "quirks", .int quirks), (zs "name", .str name), (zs "due", .ref D.due)] := .cons (by kernel_rfl) (.cons (by kernel_rfl) (.cons (by kernel_rfl) .nil))
  have sb2 : ∀ v, Sub [(zs "headings", V.ref hd), (zs "name", .str name), (zs "due", .ref D.due)] ((zs "place", v) :: [(zs "headings", V.ref hd), (zs "quirks", .int quirks), (zs "name", .str name), (zs "due", .ref D.due)]) := fun v => .cons (by kernel_rfl) (.cons (by kernel_rfl) (.cons (by kernel_rfl) .nil))
  have pick : ∀ s, t'.d3 name quirks = s → s = ((t.d1 name).d2 name).d3 name quirks := fun s hs => by rw [← hs, e4]
  have h3 := h4.d3 (by omega) (name := name) (quirks := quirks)
  unfold St.d3 at pick h3
  refine A6 ?_
  refine AY ?_
  refine AB ?_
  refine A4 rfl ?_
  refine A9 ?_
  refine B9 ?_
  refine ⟨_, rfl, ?_⟩
  refine AQ (fun h1 => ?_) (fun h1 => ?_)
  ·rw [if_pos (show (name == buttonS) = true from h1)] at pick h3
   refine A6 ?_
   refine AD ?_
   refine AJ (F9 _) (FX _) ?_
   refine A5 ?_
   refine A4 rfl ?_
   refine A5 ?_
   refine Af ?_
   refine A5 ?_
   refine A9 ?_
   refine A7 ?_
   refine ⟨_, _, _, _, rfl, sz_lit rfl, fun c => ?_⟩
   refine A5 ?_
   refine A9 ?_
   refine A7 ?_
   rename Addr => bl
   refine EL (D := D.at e) (ns := btnW) h4.ok h4.w h4.tx (fun p hp => List.mem_append_left _ hp) (by walk_at "mm") (by decide) ?_
   refine AF ?_
   refine A6 ?_
   refine AY ?_
   refine AB ?_
   refine A4 rfl ?_
   refine AL ?_
   refine O_geI ?_
   refine ⟨_, rfl, ?_⟩
   refine AQ (fun h2 => ?_) (fun h2 => ?_)
   ·have h2' : decide (t'.btnP ≥ 0) = true := h2
    rw [if_pos h2'] at pick h3
    have hr := Gh t'.wds btnW es
    have hp : 0 ≤ Av t'.wds btnW es := of_decide_eq_true h2
    rw [show t'.btnP = Av t'.wds btnW es from rfl] at pick h3
    rw [show zs "" = es from rfl]
    generalize Av t'.wds btnW es = p at pick h3 hp hr ⊢
    have hl2 : t'.wds.length = t'.opn.length := by unfold St.wds; rw [List.length_map]
    have e2 : p = ((p.toNat : Nat) : Int) := by omega
    refine A6 ?_
    refine AI ?_
    refine AJ (C8 _) (CG _) ?_
    refine A5 ?_
    refine A4 rfl ?_
    refine A7 ?_
    refine Ci (D := D.at e) h4.w ?_
    refine ⟨rfl, ?_⟩
    refine A6 ?_
    refine BF ?_
    refine BX ?_
    refine AO ?_
    refine A4 rfl ?_
    refine A9 ?_
    refine EJ ?_
    refine Br ?_
    refine Bs ?_
    refine A4 rfl ?_
    rw [e2]
    refine Bc (ds := t'.opn.map V.int) (lo := none) (hi := some ((p.toNat : Nat) : Int)) (md_op (D := D.at e) (t := St.dErr _ _) _) (by rw [List.length_map]; exact line_le h4.w.opn h4.w.small) .none (.int _) fun c => ?_
    rw [D3 _ _ (by rw [List.length_map]; omega), ← List.map_take]
    refine A4 rfl ?_
    refine A9 ?_
    refine EU (Fo (D := D.at e) (t := St.dErr _ _)) (Nat.le_trans (Nat.le_of_ble_eq_true (by kernel_rfl : Nat.ble (BY (D.at e) (t'.dErr BL)).length 1000 = true)) (by rw [sizeLine_eq]; omega)) ?_
    refine A8 ?_
    refine A8 ?_
    refine W.pre ?_ (fun h S => GM S)
    refine t4 c hd _ _ _ (pick _ rfl) h3 ?_ (by walk_at "mm") (sb2 _)
    exact hX.trans (List.Sublist.cons _ (List.Sublist.refl _))
   ·rw [if_neg (show ¬ decide (t'.btnP ≥ 0) = true by rw [show decide (t'.btnP ≥ 0) = false from h2]; decide)] at pick h3
    refine A8 ?_
    refine A8 ?_
    refine t4 e hd _ _ _ (pick _ rfl) h3 ?_ (by walk_at "mm") (sb2 _)
    exact hX.trans (List.Sublist.cons _ (List.Sublist.refl _))
  ·rw [if_neg (show ¬ (name == buttonS) = true by rw [show (name == buttonS) = false from h1]; decide)] at pick h3
   refine A6 ?_
   refine AY ?_
   refine GS ?_
   refine AB ?_
   refine A4 rfl ?_
   refine A9 ?_
   refine Ej ?_
   refine ⟨_, rfl, ?_⟩
   refine AQ (fun h2 => ?_) (fun h2 => ?_)
   ·rw [if_pos (show (name != Au || decide (quirks < 2)) = true by rw [show (name != Au) = true from h2]; rfl)] at pick h3
    refine DY rfl ?_
    refine A6 ?_
    refine AI ?_
    refine AJ (Cn _) (Co _) ?_
    refine A5 ?_
    refine A4 rfl ?_
    refine A5 ?_
    refine Af ?_
    refine A5 ?_
    refine A9 ?_
    refine A7 ?_
    refine ⟨_, _, _, _, rfl, sz_lit rfl, fun c => ?_⟩
    refine A5 ?_
    refine A9 ?_
    refine A7 ?_
    rename Addr => pl
    refine CN (D := D.at e) (ns := pW) (sort := buttonS) h4.ok h4.w h4.tx (by walk_at "mm") (by decide) fun c => ?_
    refine ⟨rfl, ?_⟩
    refine A8 ?_
    refine A8 ?_
    refine t4 c hd _ _ _ (pick _ rfl) (h3.up (by omega) (by omega)) ?_ (by walk_at "mm") sb
    exact hX.trans (List.Sublist.cons _ (List.Sublist.refl _))
   ·refine F0 ?_
    refine AB ?_
    refine A4 rfl ?_
    refine AL ?_
    refine O_ltI ?_
    refine ⟨_, rfl, ?_⟩
    refine AQ (fun h5 => ?_) (fun h5 => ?_)
    ·rw [if_pos (show (name != Au || decide (quirks < 2)) = true by rw [show (decide (quirks < 2)) = true from h5, Bool.or_true])] at pick h3
     refine A6 ?_
     refine AI ?_
     refine AJ (Cn _) (Co _) ?_
     refine A5 ?_
     refine A4 rfl ?_
     refine A5 ?_
     refine Af ?_
     refine A5 ?_
     refine A9 ?_
     refine A7 ?_
     refine ⟨_, _, _, _, rfl, sz_lit rfl, fun c => ?_⟩
     refine A5 ?_
     refine A9 ?_
     refine A7 ?_
     rename Addr => pl
     refine CN (D := D.at e) (ns := pW) (sort := buttonS) h4.ok h4.w h4.tx (by walk_at "mm") (by decide) fun c => ?_
     refine ⟨rfl, ?_⟩
     refine A8 ?_
     refine A8 ?_
     refine t4 c hd _ _ _ (pick _ rfl) (h3.up (by omega) (by omega)) ?_ (by walk_at "mm") sb
     exact hX.trans (List.Sublist.cons _ (List.Sublist.refl _))
    ·rw [if_neg (show ¬ (name != Au || decide (quirks < 2)) = true by rw [show (name != Au) = false from h2, show (decide (quirks < 2)) = false from h5]; decide)] at pick h3
     refine A8 ?_
     refine A8 ?_
     exact t4 e hd _ _ _ (pick _ rfl) h3 hX hh sb
 have t2 : ∀ (e hd : Addr) (t' : St) (X : Store) (m : Loc), t' = t.d1 name → Good t' (b + 1) F → τ.Sublist X → (hd, Cell.list (headW.map V.str)) ∈ X → Sub [(zs "headings", V.ref hd), (zs "quirks", .int quirks), (zs "name", .str name), (zs "due", .ref D.due)] m → W g (k + 3) IsFl (Fm (AS (D.at e) t') L m X) (execs ((stB (tS 59)).drop 2) (envOf (zs "_law_ahead") (stS (tS 59)) L 729 (.ref 728))) (BC Q) := by
  intro e hd t' X m e4 h4 hX hh hm
  refine W.pre ?_ (fun h S => S.weak hm)
  conv in stB _ => whnf
  conv in stS _ => whnf
  show WS g (k + 3) _ _ [_, _, _, _] _
  have h3 := h4.d2 (by omega) (name := name)
  have pick : ∀ s, t'.d2 name = s → s = (t.d1 name).d2 name := fun s hs => by rw [← hs, e4]
  unfold St.d2 at pick h3
  refine A6 ?_
  refine AY ?_
  refine AB ?_
  refine A4 rfl ?_
  (refine Ac (xs := sL ["dd", "dt"]) ?ha ?hb ?_; (case ha => kernel_rfl); (case hb => kernel_rfl))
  refine BK ?_
  refine ⟨_, rfl, ?_⟩
  refine AQ (fun h1 => ?_) (fun h1 => ?_)
  ·rw [if_pos (show ddL.contains name = true from h1)] at pick h3
   refine A6 ?_
   refine AI ?_
   refine AJ (Cn _) (Co _) ?_
   refine A5 ?_
   refine A4 rfl ?_
   refine A5 ?_
   refine Af ?_
   refine A5 ?_
   refine A9 ?_
   refine A5 ?_
   refine A9 ?_
   refine A7 ?_
   refine ⟨_, _, _, _, rfl, sz_lit rfl, fun c => ?_⟩
   refine A5 ?_
   refine A9 ?_
   refine A7 ?_
   rename Addr => pl
   refine CN (D := D.at e) (ns := ddW) (sort := CM) h4.ok h4.w h4.tx (by walk_at "mm") (by decide) fun c => ?_
   refine ⟨rfl, ?_⟩
   refine A8 ?_
   refine t3 c hd _ _ _ (pick _ rfl) h3 ?_ (by walk_at "mm") (.refl _)
   exact hX.trans (List.Sublist.cons _ (List.Sublist.refl _))
  ·rw [if_neg (show ¬ ddL.contains name = true by rw [show ddL.contains name = false from h1]; decide)] at pick h3
   refine A8 ?_
   exact t3 e hd _ _ _ (pick _ rfl) h3 hX hh (.refl _)
 have t1 : ∀ (e hd : Addr) (t' : St) (X : Store) (m : Loc), t' = t → Good t' (b + 0) F → τ.Sublist X → (hd, Cell.list (headW.map V.str)) ∈ X → Sub [(zs "headings", V.ref hd), (zs "quirks", .int quirks), (zs "name", .str name), (zs "due", .ref D.due)] m → W g (k + 3) IsFl (Fm (AS (D.at e) t') L m X) (execs ((stB (tS 59)).drop 1) (envOf (zs "_law_ahead") (stS (tS 59)) L 729 (.ref 728))) (BC Q) := by
  intro e hd t' X m e4 h4 hX hh hm
  refine W.pre ?_ (fun h S => S.weak hm)
  conv in stB _ => whnf
  conv in stS _ => whnf
  show WS g (k + 3) _ _ [_, _, _, _, _] _
  have h3 := h4.d1 (by omega) (name := name)
  have pick : ∀ s, t'.d1 name = s → s = t.d1 name := fun s hs => by rw [← hs, e4]
  unfold St.d1 at pick h3
  refine A6 ?_
  refine AY ?_
  refine AB ?_
  refine A4 rfl ?_
  refine A9 ?_
  refine B9 ?_
  refine ⟨_, rfl, ?_⟩
  refine AQ (fun h1 => ?_) (fun h1 => ?_)
  ·rw [if_pos (show (name == zs "li") = true from h1)] at pick h3
   refine A6 ?_
   refine AI ?_
   refine AJ (Cn _) (Co _) ?_
   refine A5 ?_
   refine A4 rfl ?_
   refine A5 ?_
   refine Af ?_
   refine A5 ?_
   refine A9 ?_
   refine A7 ?_
   refine ⟨_, _, _, _, rfl, sz_lit rfl, fun c => ?_⟩
   refine A5 ?_
   refine A9 ?_
   refine A7 ?_
   rename Addr => pl
   refine CN (D := D.at e) (ns := liW) (sort := CM) h4.ok h4.w h4.tx (by walk_at "mm") (by decide) fun c => ?_
   refine ⟨rfl, ?_⟩
   refine A8 ?_
   refine t2 c hd _ _ _ (pick _ rfl) h3 ?_ (by walk_at "mm") (.refl _)
   exact hX.trans (List.Sublist.cons _ (List.Sublist.refl _))
  ·rw [if_neg (show ¬ (name == zs "li") = true by rw [show (name == zs "li") = false from h1]; decide)] at pick h3
   refine A8 ?_
   exact t2 e hd _ _ _ (pick _ rfl) h3 hX hh (.refl _)
 refine A6 ?_
 (refine DT (cl := _) ?hsw rfl (by decide) rfl (by decide) rfl ?_; (case hsw => with_unfolding_all rfl))
 refine Ap (DU _) rfl (by decide) ?_
 refine A5 ?_
 refine AL ?_
 refine A5 ?_
 refine AL ?_
 refine A7 ?_
 refine Cl_range2 fun r => ?_
 refine comp_range (fun i => V.str (headW.getD i es)) (by walk_at "mm") (by decide) (by decide) (by decide) (n := 6) (by decide) (fun i hi C τ' => ?_) fun hd => ?_
 ·refine AP ?_
  refine A9 ?_
  refine Ap (gl_str _) rfl (by decide) ?_
  refine A5 ?_
  refine A4 rfl ?_
  refine A7 ?_
  obtain rfl | rfl | rfl | rfl | rfl | rfl : i = 0 ∨ i = 1 ∨ i = 2 ∨ i = 3 ∨ i = 4 ∨ i = 5 := by omega
  all_goals
   refine Cl_strI (by decide) ?_
   refine O_addS (sz_lit rfl) ?_
   exact ⟨by kernel_rfl, rfl⟩
 refine ⟨_, _, _, rfl, ?_⟩
 refine t1 D.op hd t _ _ rfl (h.up (by omega) (by omega)) (List.Sublist.cons _ (List.Sublist.cons _ (List.Sublist.refl _))) (by walk_at "mm") (.refl _)
end
end Mine
namespace Mine
noncomputable def fS : Str := zs "f"
noncomputable def Ad : Str := zs "form"
noncomputable def bfL : List Str := sL ["button", "fieldset"]
noncomputable def keptL : List Str := sL ["li", "dd", "dt", "hr", "pre", "listing", "button", "table", "xmp"]
noncomputable def prelL : List Str := sL ["pre", "listing"]
noncomputable def St.isW (t : St) : Bool := t.wds.contains (zs "html:template")
noncomputable def St.formErr (t : St) (name : Str) : Bool := name == Ad && (t.form != -1 && !t.isW)
noncomputable def ownsB (f : Int) (w : Bool) (name : Str) (attrs : List (Str × Str)) : Bool := bfL.contains name && (f != -1 && (!w && !attrs.contains (Ad, fS)))
noncomputable def St.dOwn (u : St) (w : Bool) (name : Str) (attrs : List (Str × Str)) (node : Int) : St := if ownsB u.form w name attrs then u.putO node u.form else u
noncomputable def St.dForm (u : St) (w : Bool) (name : Str) (node : Int) : St := if name == Ad && !w then u.setForm node else u
noncomputable def St.dPop (u : St) (name : Str) : St := if name == hrS then u.setOpn u.opn.dropLast else u
noncomputable def St.dFin (u : St) (w : Bool) (name : Str) (attrs : List (Str × Str)) (a c : Addr) : St := (((u.put name attrs a c).dOwn w name attrs u.names.length).dForm w name u.names.length).dPop name
noncomputable def St.dueS (t : St) (name : Str) (attrs : List (Str × Str)) (quirks : Int) : St := if t.formErr name then t.dErr BL else (t.dahead name quirks).dFin t.isW name attrs 0 0
noncomputable def Bu (b1 : Bool) (mode orig wish : Str) (b2 b3 : Bool) : List V := [.bool b1, .str mode, .str orig, .str wish, .bool b2, .bool b3]
noncomputable def Dn (name : Str) : Str := if name == Au then zs "in table" else if name == zs "xmp" then zs "text" else inBody
noncomputable def Do (name : Str) : Str := if name == zs "plaintext" then zs "PLAINTEXT" else if name == zs "xmp" then zs "RAWTEXT" else es
noncomputable def EM (name : Str) : Str := if name == zs "xmp" then inBody else es
noncomputable def St.dueFl (t : St) (name : Str) : List V := if t.formErr name then Bu true inBody es es false false else Bu (!keptL.contains name) (Dn name) (EM name) (Do name) (prelL.contains name) (name == hrS)
theorem atS2 (a b n : Str) (x y z : V) : (atS [(a, x), (b, y)] n).getD z = if n == a then x else if n == b then y else z := by
 unfold atS
 by_cases h : a = n
 ·subst h; simp
 ·have h' : ¬ n = a := fun e => h e.symm
  by_cases h2 : b = n
  ·subst h2; simp [h, h']
  ·have h2' : ¬ n = b := fun e => h2 e.symm
   simp [h, h2, h', h2']
theorem put_form (D : DA) (t : St) (x : Int) : Gp (zs "form") (.int x) (BY D t) = BY D (t.setForm x) := by
 unfold Gp
 rw [if_pos (by simp [BY])]
 kernel_rfl
theorem ud_form {D : DA} {t : St} {x : Int} {σ : Store} : Upd1 D.due (.sdict (BY D t)) (.sdict (Gp (zs "form") (.int x) (BY D t))) (AS D t ++ σ) (AS D (t.setForm x) ++ σ) := by
 rw [put_form]; exact .head
theorem dOwn_noA (u : St) (w : Bool) (name : Str) (attrs : List (Str × Str)) (node : Int) : (u.dOwn w name attrs node).noA = u.noA.dOwn w name attrs node := by
 unfold St.dOwn; rw [show u.noA.form = u.form from rfl]; split <;> rfl
theorem dForm_noA (u : St) (w : Bool) (name : Str) (node : Int) : (u.dForm w name node).noA = u.noA.dForm w name node := by
 unfold St.dForm; split <;> rfl
theorem dPop_noA (u : St) (name : Str) : (u.dPop name).noA = u.noA.dPop name := by
 unfold St.dPop; split <;> rfl
theorem dFin_noA {u v : St} (h : u.noA = v.noA) (w : Bool) (name : Str) (attrs : List (Str × Str)) (a c : Addr) : (u.dFin w name attrs a c).noA = (v.dFin w name attrs 0 0).noA := by
 have hn' : u.noA.names = v.noA.names := congrArg St.names h
 have hn : u.names = v.names := hn'
 unfold St.dFin
 rw [dPop_noA, dForm_noA, dOwn_noA, St.put_noA, h, ← St.put_noA, ← dOwn_noA, ← dForm_noA, ← dPop_noA, hn]
theorem reGo_con : ∀ (f : Nat) (s : St) (i : Nat), (s.reGo i f).con = s.con
 | 0, s, i => rfl
 | f + 1, s, i => by
  show ((s.reOne i 0 0).reGo (i + 1) f).con = _
  rw [reGo_con f]; rfl
theorem recon_con (s : St) : s.recon.con = s.con := reGo_con _ _ _
theorem Good.dpre {t : St} {b : Nat} {F : List Int} (h : Good t b F) (hb : b + 4 ≤ 1000000) {name : Str} {quirks : Int} : Good (t.dpre name quirks) (b + 4) F :=
 (((h.d1 (by omega) (name := name)).d2 (by omega) (name := name)).d3 (by omega) (name := name) (quirks := quirks)).d4' (by omega) (name := name)
theorem Good.dahead0 {t : St} {b : Nat} {F : List Int} (h : Good t b F) (hb : b + 4 ≤ 1000000) {name : Str} {quirks : Int} : (t.dahead name quirks).con 0 = none := by
 have h4 := (h.dpre hb (name := name) (quirks := quirks)).c0
 unfold St.dahead; split
 ·rw [recon_con]; exact h4
 ·exact h4
theorem Big.putO {s : St} {b : Nat} (w : Big s b) (hb : b + 1 ≤ 1000000) {i j : Int} : Big (s.putO i j) (b + 1) :=
 let w' := w.up (Nat.le_succ b) hb
 ⟨w'.n, w'.opn, w'.fmt, w'.err, Nat.le_trans (EF ..) (Nat.succ_le_succ w.own), w'.con, w'.att, w'.chi, w'.small⟩
theorem con_noA {u v : St} (h : u.noA = v.noA) : u.con = v.con := by
 have e : u.noA.contents = v.noA.contents := congrArg St.contents h
 have e' : u.contents = v.contents := e
 unfold St.con; rw [e']
section
variable {g : G} {k : Nat} {D : DA} {t : St} {τ σ R : Store} {Q : V → Store → Prop} {b : Nat} {L₀ : Addr} {m₀ : Loc} {FF : List Int}
theorem law_due_spec {name : Str} {attrs : List (Str × Str)} {quirks : Int} (h : Good t b FF) (hnm : name.length ≤ 100) (ha : attrs.length ≤ 1000) (ha2 : attrs.length ≤ b + 1) (hb : b + 2 * FF.length + 8 ≤ 1000000)
  (q : ∀ e t' fl, t'.noA = (t.dueS name attrs quirks).noA → Ok t' → Q (.ref fl) (AS (D.at e) t' ++ (fl, .list (t.dueFl name)) :: τ)) : Fn g (k + 5) 736 [.ref D.due, .str name, .tup (attrs.map prV), .int quirks] (AS D t ++ τ) Q := by
 refine AN [(zs "quirks", .int quirks), (zs "attrs", .tup (attrs.map prV)), (zs "name", .str name), (zs "due", .ref D.due)] (lk_law_due _) (cd_law_due _) (bnd4 (fun _ _ _ _ => by kernel_rfl) (by kernel_rfl)) (fun L => ?_) (by decide +kernel) (by kernel_rfl) (by kernel_rfl) (by kernel_rfl)
 conv in stB _ => whnf
 conv in stS _ => whnf
 have t7 : ∀ (e : Addr) (t' : St) (X : Store) (m : Loc), t.formErr name = false → Ok t' → t'.noA = (t.dueS name attrs quirks).noA → τ.Sublist X → Sub [(zs "name", .str name), (zs "due", .ref D.due)] m → W g (k + 4) IsFl (Fm (AS (D.at e) t') L m X) (execs ((stB (tS 60)).drop 7) (envOf (zs "_law_due") (stS (tS 60)) L 736 (.ref 735))) (BC Q) := by
  intro e t' X m hf okt e1 hX hm
  refine W.pre ?_ (fun h S => S.weak hm)
  conv in stB _ => whnf
  conv in stS _ => whnf
  show WS g (k + 4) _ _ [_, _, _, _] _
  refine A6 ?_
  refine AD ?_
  refine AV ?_
  refine A4 rfl ?_
  (refine Ac (xs := sL ["li", "dd", "dt", "hr", "pre", "listing", "button", "table", "xmp"]) ?ha ?hb ?_; (case ha => kernel_rfl); (case hb => kernel_rfl))
  refine O_ninTS ?_
  refine AF ?_
  refine A6 ?_
  refine AD ?_
  refine AH ?_
  refine Ie rfl rfl (fun h => by cases h) (by decide) fun d1 => ?_
  refine BV ?_
  refine A9 ?_
  refine BV ?_
  refine A9 ?_
  refine WD_nil ?_
  refine ⟨[], rfl, by decide, ?_⟩
  refine Aq (TyOf.sdict (by walk_at "mm")) F.plainAttrs_dict F.slot_dict_get F.type_dict_get ?_
  refine A5 ?_
  refine A4 rfl ?_
  refine A5 ?_
  refine A9 ?_
  refine A7 ?_
  refine Cl_getS (by walk_at "mm") ?_
  have em : (atS [(zs "table", V.str (zs "in table")), (zs "xmp", .str (zs "text"))] name).getD (.str (zs "in body")) = .str (Dn name) := by
   rw [atS2]; unfold Dn; rw [show Au = zs "table" from rfl]; split
   case isTrue h => rfl
   case isFalse h => split <;> rfl
  rw [em]
  refine AF ?_
  refine A6 ?_
  refine AD ?_
  refine AH ?_
  refine Ie rfl rfl (fun h => by cases h) (by decide) fun d2 => ?_
  refine BV ?_
  refine A9 ?_
  refine BV ?_
  refine A9 ?_
  refine WD_nil ?_
  refine ⟨[], rfl, by decide, ?_⟩
  refine Aq (TyOf.sdict (by walk_at "mm")) F.plainAttrs_dict F.slot_dict_get F.type_dict_get ?_
  refine A5 ?_
  refine A4 rfl ?_
  refine A5 ?_
  refine A9 ?_
  refine A7 ?_
  refine Cl_getS (by walk_at "mm") ?_
  have ew : (atS [(zs "plaintext", V.str (zs "PLAINTEXT")), (zs "xmp", .str (zs "RAWTEXT"))] name).getD (.str (zs "")) = .str (Do name) := by
   rw [atS2]; unfold Do; split
   case isTrue h => rfl
   case isFalse h => split <;> rfl
  rw [ew]
  refine AF ?_
  refine A6 ?_
  refine AG ?_
  refine Af ?_
  refine A5 ?_
  refine A4 rfl ?_
  refine A5 ?_
  refine A4 rfl ?_
  refine A5 ?_
  refine E3 ?_
  refine AB ?_
  refine A4 rfl ?_
  refine A9 ?_
  refine B9 ?_
  refine ⟨_, rfl, ?_⟩
  have q' : ∀ fl, Q (.ref fl) (AS (D.at e) t' ++ (fl, .list (Bu (!keptL.contains name) (Dn name) (EM name) (Do name) (prelL.contains name) (name == hrS))) :: τ) := fun fl => by
   have := q e t' fl e1 okt
   unfold St.dueFl at this
   rw [hf] at this
   exact this
  unfold EM at q'
  refine AQ (fun h => ?_) (fun h => ?_)
  ·simp only [h, if_true] at q'
   refine A9 ?_
   refine A5 ?_
   refine A4 rfl ?_
   refine A5 ?_
   refine AV ?_
   refine A4 rfl ?_
   (refine Ac (xs := sL ["pre", "listing"]) ?ha ?hb ?_; (case ha => kernel_rfl); (case hb => kernel_rfl))
   refine BK ?_
   refine A5 ?_
   refine AV ?_
   refine A4 rfl ?_
   refine A9 ?_
   refine B9 ?_
   refine A7 ?_
   refine ⟨_, _, _, _, rfl, sz_lit rfl, fun c => ?_⟩
   exact ⟨_, _, List.Sublist.append_left (List.Sublist.cons _ (List.Sublist.cons_cons _ (List.Sublist.cons _ (List.Sublist.cons _ hX)))) _, .refl _, q' _⟩
  ·simp only [h, Bool.false_eq_true, if_false] at q'
   refine A9 ?_
   refine A5 ?_
   refine A4 rfl ?_
   refine A5 ?_
   refine AV ?_
   refine A4 rfl ?_
   (refine Ac (xs := sL ["pre", "listing"]) ?ha ?hb ?_; (case ha => kernel_rfl); (case hb => kernel_rfl))
   refine BK ?_
   refine A5 ?_
   refine AV ?_
   refine A4 rfl ?_
   refine A9 ?_
   refine B9 ?_
   refine A7 ?_
   refine ⟨_, _, _, _, rfl, sz_lit rfl, fun c => ?_⟩
   exact ⟨_, _, List.Sublist.append_left (List.Sublist.cons _ (List.Sublist.cons_cons _ (List.Sublist.cons _ (List.Sublist.cons _ hX)))) _, .refl _, q' _⟩
 have t6 : ∀ (e : Addr) (t' : St) (X : Store) (m : Loc) (b' : Nat), t.formErr name = false → Ok t' → Big t' b' → (t'.dPop name).noA = (t.dueS name attrs quirks).noA → τ.Sublist X → Sub [(zs "name", .str name), (zs "due", .ref D.due)] m → W g (k + 4) IsFl (Fm (AS (D.at e) t') L m X) (execs ((stB (tS 60)).drop 6) (envOf (zs "_law_due") (stS (tS 60)) L 736 (.ref 735))) (BC Q) := by
  intro e t' X m b' hf okt w1 e1 hX hm
  refine W.pre ?_ (fun h S => S.weak hm)
  conv in stB _ => whnf
  conv in stS _ => whnf
  show WS g (k + 4) _ _ [_, _, _, _, _] _
  unfold St.dPop at e1
  refine A6 ?_
  refine AY ?_
  refine AB ?_
  refine A4 rfl ?_
  refine A9 ?_
  refine B9 ?_
  refine ⟨_, rfl, ?_⟩
  refine AQ (fun h => ?_) (fun h => ?_)
  ·rw [if_pos (show (name == hrS) = true from h)] at e1
   refine A6 ?_
   refine BF ?_
   refine BX ?_
   refine AO ?_
   refine A4 rfl ?_
   refine A9 ?_
   refine EJ ?_
   refine Br ?_
   refine Bs ?_
   refine AX ?_
   refine AL ?_
   refine B8 ?_
   refine Bc (ds := t'.opn.map V.int) (lo := none) (hi := some (-1)) (md_op (D := D.at e) (t := t') _) (by rw [List.length_map]; exact line_le w1.opn w1.small) .none (.int _) fun c => ?_
   rw [Id, ← List.map_dropLast]
   refine A4 rfl ?_
   refine A9 ?_
   refine EU (Fo (D := D.at e) (t := t')) (Nat.le_trans (Nat.le_of_ble_eq_true (by kernel_rfl : Nat.ble (BY (D.at e) t').length 1000 = true)) (by rw [sizeLine_eq]; omega)) ?_
   refine A8 ?_
   refine W.pre ?_ (fun h S => GM S)
   exact t7 c _ _ _ hf (okt.setOpn fun x hx => List.dropLast_subset _ hx) e1 hX (.refl _)
  ·rw [if_neg (show ¬ (name == hrS) = true by rw [show (name == hrS) = false from h]; decide)] at e1
   refine A8 ?_
   exact t7 e _ _ _ hf okt e1 hX (.refl _)
 have t5 : ∀ (e : Addr) (t' : St) (X : Store) (m : Loc) (b' : Nat) (node : Int), t.formErr name = false → Ok t' → Big t' b' → ((t'.dForm t.isW name node).dPop name).noA = (t.dueS name attrs quirks).noA → τ.Sublist X → Sub [(zs "node", .int node), (zs "is_within", .bool t.isW), (zs "name", .str name), (zs "due", .ref D.due)] m → W g (k + 4) IsFl (Fm (AS (D.at e) t') L m X) (execs ((stB (tS 60)).drop 5) (envOf (zs "_law_due") (stS (tS 60)) L 736 (.ref 735))) (BC Q) := by
  intro e t' X m b' node hf okt w1 e1 hX hm
  refine W.pre ?_ (fun h S => S.weak hm)
  conv in stB _ => whnf
  conv in stS _ => whnf
  show WS g (k + 4) _ _ [_, _, _, _, _, _] _
  unfold St.dForm at e1
  have sb : Sub [(zs "name", V.str name), (zs "due", .ref D.due)] [(zs "node", .int node), (zs "is_within", .bool t.isW), (zs "name", .str name), (zs "due", .ref D.due)] := .cons (by kernel_rfl) (.cons (by kernel_rfl) .nil)
  refine A6 ?_
  refine AY ?_
  refine DS (c := name == Ad && !t.isW) ?_ (fun h => ?_) (fun h => ?_)
  ·refine BO ?_
   refine AB ?_
   refine A4 rfl ?_
   refine A9 ?_
   refine B9 ?_
   refine ⟨_, rfl, ?_⟩
   refine AQ (fun h => ?_) (fun h => ?_)
   ·refine Bi ?_
    refine Df ?_
    refine B7 ?_
    refine A4 rfl ?_
    refine An ?_
    exact ⟨by rw [show (name == Ad) = true from h, Bool.true_and], rfl⟩
   ·exact ⟨by rw [show (name == Ad) = false from h, Bool.false_and], rfl⟩
  ·rw [if_pos h] at e1
   refine A6 ?_
   refine BF ?_
   refine A4 rfl ?_
   refine A4 rfl ?_
   refine A9 ?_
   refine EU (ud_form (D := D.at e) (t := t')) (Nat.le_trans (Nat.le_of_ble_eq_true (by kernel_rfl : Nat.ble (BY (D.at e) t').length 1000 = true)) (by rw [sizeLine_eq]; omega)) ?_
   refine A8 ?_
   exact t6 e _ _ _ b' hf okt.setForm w1.setForm e1 hX sb
  ·rw [if_neg (by rw [h]; decide)] at e1
   refine A8 ?_
   exact t6 e _ _ _ b' hf okt w1 e1 hX sb
 have t4 : ∀ (e : Addr) (t' : St) (X : Store) (m : Loc) (b' : Nat) (node : Int), t.formErr name = false → b' + 1 ≤ 1000000 → Ok t' → Big t' b' → (((t'.dOwn t.isW name attrs node).dForm t.isW name node).dPop name).noA = (t.dueS name attrs quirks).noA → τ.Sublist X → Sub [(zs "node", .int node), (zs "is_within", .bool t.isW), (zs "attrs", .tup (attrs.map prV)), (zs "name", .str name), (zs "due", .ref D.due)] m → W g (k + 4) IsFl (Fm (AS (D.at e) t') L m X) (execs ((stB (tS 60)).drop 4) (envOf (zs "_law_due") (stS (tS 60)) L 736 (.ref 735))) (BC Q) := by
  intro e t' X m b' node hf hb' okt w1 e1 hX hm
  refine W.pre ?_ (fun h S => S.weak hm)
  conv in stB _ => whnf
  conv in stS _ => whnf
  show WS g (k + 4) _ _ [_, _, _, _, _, _, _] _
  unfold St.dOwn at e1
  have sb : Sub [(zs "node", .int node), (zs "is_within", .bool t.isW), (zs "name", V.str name), (zs "due", .ref D.due)] [(zs "node", .int node), (zs "is_within", .bool t.isW), (zs "attrs", .tup (attrs.map prV)), (zs "name", .str name), (zs "due", .ref D.due)] := .cons (by kernel_rfl) (.cons (by kernel_rfl) (.cons (by kernel_rfl) (.cons (by kernel_rfl) .nil)))
  refine A6 ?_
  refine AY ?_
  refine DS (c := ownsB t'.form t.isW name attrs) ?_ (fun h => ?_) (fun h => ?_)
  ·unfold ownsB
   refine BO ?_
   refine AB ?_
   refine A4 rfl ?_
   (refine Ac (xs := sL ["button", "fieldset"]) ?ha ?hb ?_; (case ha => kernel_rfl); (case hb => kernel_rfl))
   refine BK ?_
   refine ⟨_, rfl, ?_⟩
   refine AQ (fun h => ?_) (fun h => ?_)
   ·rw [show bfL.contains name = true from h, Bool.true_and]
    refine BO ?_
    refine AB ?_
    refine AO ?_
    refine A4 rfl ?_
    refine A9 ?_
    refine D_form ?_
    refine AX ?_
    refine AL ?_
    refine B8 ?_
    refine FD ?_
    refine ⟨_, rfl, ?_⟩
    refine AQ (fun h => ?_) (fun h => ?_)
    ·rw [h, Bool.true_and]
     refine BO ?_
     refine Df ?_
     refine B7 ?_
     refine A4 rfl ?_
     refine An ?_
     refine AQ (fun h => ?_) (fun h => ?_)
     ·rw [h, Bool.true_and]
      refine Bi ?_
      refine AB ?_
      (refine Ac (xs := sL ["form", "f"]) ?ha ?hb ?_; (case ha => kernel_rfl); (case hb => kernel_rfl))
      refine A4 rfl ?_
      refine O_ninTP (x := (Ad, fS)) ?_
      refine ⟨_, rfl, ?_⟩
      exact ⟨rfl, rfl⟩
     ·exact ⟨by rw [h, Bool.false_and], rfl⟩
    ·exact ⟨by rw [h, Bool.false_and], rfl⟩
   ·exact ⟨by rw [show bfL.contains name = false from h, Bool.false_and], rfl⟩
  ·rw [if_pos h] at e1
   refine A6 ?_
   refine BF ?_
   refine AO ?_
   refine A4 rfl ?_
   refine A9 ?_
   refine D_form ?_
   refine AO ?_
   refine A4 rfl ?_
   refine A9 ?_
   refine D_owners ?_
   refine A4 rfl ?_
   refine O_setDI (ud_owners (D := D.at e) (t := t') _ (putK_dc _ _ _)) (by rw [List.length_map]; exact line_le w1.own w1.small) ?_
   refine A8 ?_
   exact t5 e _ _ _ _ node hf ⟨okt.sp, okt.ki, okt.te, okt.at_, okt.aA, okt.pa, okt.ch, okt.cA, okt.pos, okt.opn, okt.fmt, okt.up, okt.con⟩ (w1.putO hb') e1 hX sb
  ·rw [if_neg (by rw [h]; decide)] at e1
   refine A8 ?_
   exact t5 e _ _ _ b' node hf okt w1 e1 hX sb
 refine A6 ?_
 refine AD ?_
 refine AV ?_
 refine A9 ?_
 refine AJ (DD _) (DI _) ?_
 refine A5 ?_
 refine A4 rfl ?_
 refine A7 ?_
 refine CW h.ok h.w h.tx (fun p hp => List.mem_append_left _ hp) fun a => ?_
 refine Et (xs := t.wds) (by walk_at "mm") ?_
 refine AF ?_
 refine A6 ?_
 refine AY ?_
 refine DS (c := t.formErr name) ?_ (fun hf => ?_) (fun hf => ?_)
 ·unfold St.formErr
  refine BO ?_
  refine AB ?_
  refine A4 rfl ?_
  refine A9 ?_
  refine B9 ?_
  refine ⟨_, rfl, ?_⟩
  refine AQ (fun h => ?_) (fun h => ?_)
  ·rw [show (name == Ad) = true from h, Bool.true_and]
   refine BO ?_
   refine AB ?_
   refine AO ?_
   refine A4 rfl ?_
   refine A9 ?_
   refine D_form ?_
   refine AX ?_
   refine AL ?_
   refine B8 ?_
   refine FD ?_
   refine ⟨_, rfl, ?_⟩
   refine AQ (fun h => ?_) (fun h => ?_)
   ·rw [h, Bool.true_and]
    refine Bi ?_
    refine Df ?_
    refine B7 ?_
    refine A4 rfl ?_
    refine An ?_
    refine ⟨rfl, ?_⟩
    rfl
   ·exact ⟨by rw [h, Bool.false_and], rfl⟩
  ·exact ⟨by rw [show (name == Ad) = false from h, Bool.false_and], rfl⟩
 ·refine A6 ?_
  refine AI ?_
  refine AJ (C8 _) (CG _) ?_
  refine A5 ?_
  refine A4 rfl ?_
  refine A7 ?_
  refine Ci (D := D) h.w ?_
  refine ⟨rfl, ?_⟩
  refine A6 ?_
  refine AG ?_
  refine Af ?_
  refine A5 ?_
  refine As ?_
  refine A5 ?_
  refine A9 ?_
  refine A5 ?_
  refine A9 ?_
  refine A5 ?_
  refine A9 ?_
  refine A5 ?_
  refine As ?_
  refine A5 ?_
  refine As ?_
  refine A7 ?_
  refine ⟨_, _, _, _, rfl, sz_lit rfl, fun c => ?_⟩
  have q' : ∀ fl, Q (.ref fl) (AS D (t.dErr BL) ++ (fl, .list (Bu true inBody es es false false)) :: τ) := fun fl => by
   have := q D.op (t.dErr BL) fl (by unfold St.dueS; rw [if_pos hf]) h.ok.dErr
   unfold St.dueFl at this
   rw [if_pos hf] at this
   exact this
  exact ⟨_, _, List.Sublist.append_left (List.Sublist.cons _ (List.Sublist.cons_cons _ (List.Sublist.cons _ (List.Sublist.refl _)))) _, .refl _, q' _⟩
 ·refine A8 ?_
  refine A6 ?_
  refine AI ?_
  refine AJ (gl_law_ahead _) (kp_law_ahead _) ?_
  refine A5 ?_
  refine A4 rfl ?_
  refine A5 ?_
  refine A4 rfl ?_
  refine A5 ?_
  refine A4 rfl ?_
  refine A7 ?_
  refine Im h hnm hb fun e t1 e1 ok1 w1 => ?_
  refine ⟨rfl, ?_⟩
  refine A6 ?_
  refine AD ?_
  refine AJ (HY _) (IH _) ?_
  refine A5 ?_
  refine A4 rfl ?_
  refine A5 ?_
  refine A4 rfl ?_
  refine A5 ?_
  refine A4 rfl ?_
  refine A7 ?_
  have hc1 : t1.con 0 = none := by rw [con_noA e1]; exact h.dahead0 (by omega)
  refine Fp (D := D.at e) (attrs := attrs) ok1 w1 (by omega) (fun k L m τ Q q => Hd (by rw [List.length_map]; exact line_le ha (by decide)) q) fun e2 a2 c2 => ?_
  rw [dput_eq ok1 hc1]
  refine AF ?_
  refine t4 e2 _ _ _ (b + 2 * FF.length + 4 + 2) (t1.names.length : Int) hf (by omega) ok1.put (w1.put (by omega) (by omega)) ?_ (List.Sublist.cons _ (List.Sublist.refl _)) ?_
  ·rw [show t.dueS name attrs quirks = (t.dahead name quirks).dFin t.isW name attrs 0 0 from if_neg (by rw [hf]; decide)]
   exact dFin_noA e1 ..
  ·exact .cons (by kernel_rfl) (.cons (by kernel_rfl) (.cons (by kernel_rfl) (.cons (by kernel_rfl) (.cons (by kernel_rfl) .nil))))
end
end Mine
namespace Mine
noncomputable def St.back (s : St) : St := (((((s.setFs true).setMode inBody).setOrig es).setWish es).setSkip false).setAck false
noncomputable def St.flags (s : St) : List V := Bu s.fs s.mode s.original s.wish s.skip s.ack
section
variable {g : G} {k : Nat} {B : BA} {s : St} {τ σ R : Store} {Q : V → Store → Prop} {b : Nat}
theorem Io (q : ∀ fl, Q (.ref fl) (AE B s ++ (fl, .list s.flags) :: τ)) : Fn g (k + 1) 743 [.ref B.bd] (AE B s ++ τ) Q := by
 refine AN [(zs "builder", .ref B.bd)] (lk_law_flags _) (cd_law_flags _) (Fz (fun _ => by kernel_rfl) (by kernel_rfl)) (fun L => ?_) (by decide +kernel) (by kernel_rfl) (by kernel_rfl) (by kernel_rfl)
 conv in stB _ => whnf
 conv in stS _ => whnf
 refine A6 ?_
 refine AD ?_
 refine Af ?_
 refine A5 ?_
 refine AC ?_
 refine A4 rfl ?_
 refine Ev ?_
 refine A5 ?_
 refine AC ?_
 refine A4 rfl ?_
 refine Hk ?_
 refine A5 ?_
 refine AC ?_
 refine A4 rfl ?_
 refine A_b_original ?_
 refine A5 ?_
 refine AC ?_
 refine A4 rfl ?_
 refine A_b_wish ?_
 refine A7 ?_
 refine ⟨_, _, _, _, rfl, sz_lit rfl, fun c => ?_⟩
 refine AF ?_
 refine A6 ?_
 refine AG ?_
 refine AP ?_
 refine A4 rfl ?_
 refine Af ?_
 refine A5 ?_
 refine AC ?_
 refine A4 rfl ?_
 refine Gr ?_
 refine A5 ?_
 refine AC ?_
 refine A4 rfl ?_
 refine Ec ?_
 refine A7 ?_
 refine ⟨_, _, _, _, rfl, sz_lit rfl, fun c => ?_⟩
 refine CU (by walk_at "mm") (by walk_at "mm") (by walk_at "sz") fun c => ?_
 exact ⟨_, _, List.Sublist.append_left (List.Sublist.cons _ (List.Sublist.cons_cons _ (List.Sublist.cons _ (List.Sublist.cons _ (List.Sublist.refl _))))) _, .refl _, q _⟩
theorem Fr (q : Q .none (AE B s.back ++ τ)) : Fn g (k + 2) 750 [.ref B.bd] (AE B s ++ τ) Q := by
 refine AN [(zs "builder", .ref B.bd)] (H0 _) (H8 _) (Fz (fun _ => by kernel_rfl) (by kernel_rfl)) (fun L => ?_) (by decide +kernel) (by kernel_rfl) (by kernel_rfl) (by kernel_rfl)
 conv in stB _ => whnf
 conv in stS _ => whnf
 refine A6 ?_
 refine AK ?_
 refine As ?_
 refine A4 rfl ?_
 refine Aw ?_
 refine A6 ?_
 refine AI ?_
 refine AH ?_
 refine A4 rfl ?_
 refine Ag (Bv _) (Bh _) (DR _) rfl ?_
 refine A5 ?_
 refine A9 ?_
 refine A7 ?_
 refine IT ?_
 refine ⟨rfl, ?_⟩
 refine A6 ?_
 refine AK ?_
 refine A9 ?_
 refine A4 rfl ?_
 refine Ff ?_
 refine A6 ?_
 refine AK ?_
 refine A9 ?_
 refine A4 rfl ?_
 refine IS ?_
 refine A6 ?_
 refine AK ?_
 refine As ?_
 refine A4 rfl ?_
 refine Dv ?_
 refine A6 ?_
 refine AK ?_
 refine As ?_
 refine A4 rfl ?_
 refine Ee ?_
 refine A8 ?_
 exact AZ (Ak ..) q
end
end Mine
namespace Mine
structure Same (s t : St) : Prop where
 opn : t.opn = s.opn
 fmt : t.fmt = s.fmt
 names : t.names = s.names
 spaces : t.spaces = s.spaces
 attrs : t.attrs = s.attrs
 parents : t.parents = s.parents
 children : t.children = s.children
 contents : t.contents = s.contents
 owners : t.owners = s.owners
 errors : t.errors = s.errors
 form : t.form = s.form
 kinds : t.kinds = s.kinds
section
variable {g : G} {k : Nat} {B : BA} {D : DA} {s t : St} {τ σ R : Store} {Q : V → Store → Prop} {b : Nat}
theorem W.thaw {α β : Type} {rel : Heap → α → β → Prop} {tr : Sem α} {Q : β → Store → Prop} {d : Addr} {es : List (Str × V)} {ep : Nat}
  (h : W g k rel σ tr fun x σ' => ∃ pre post, σ' = pre ++ (d, .pr (dP g es ep)) :: post ∧ Q x (pre ++ (d, .sdict es) :: post)) : W g k rel σ tr Q := fun A r s S =>
 wpAny_mono (h A r s S) (fun a s' ⟨x, σ', rx, S', kp, pre, post, e, q⟩ => by subst e; exact ⟨x, _, rx, S'.thaw, kp, q⟩) fun _ _ e => e
theorem thaw_fin {v : V} {Y : Store} {x1 x2 x3 x4 x5 x6 x7 x8 x9 : Addr × Cell} {d : Addr} {es : List (Str × V)} {ep : Nat} (q : Q v (R ++ (d, .sdict es) :: Y)) :
  ∃ pre post, R ++ x1 :: x2 :: x3 :: x4 :: x5 :: x6 :: x7 :: x8 :: x9 :: (d, Cell.pr (dP g es ep)) :: Y = pre ++ (d, .pr (dP g es ep)) :: post ∧ BC Q (.ret v) (pre ++ (d, .sdict es) :: post) :=
 ⟨R ++ [x1, x2, x3, x4, x5, x6, x7, x8, x9], Y, by rw [List.append_assoc]; rfl, R ++ (d, .sdict es) :: Y, _, List.Sublist.append (List.sublist_append_left _ _) (List.Sublist.refl _), .refl _, q⟩
theorem EqS_refsP : ∀ (as bs : List Addr) (ps : List (List (Str × Str))), as.length = ps.length → bs.length = ps.length → (∀ p ∈ List.zipWith (fun a ps => (a, Cell.list (ps.map prV))) as ps, p ∈ σ) → (∀ p ∈ List.zipWith (fun a ps => (a, Cell.list (ps.map prV))) bs ps, p ∈ σ) → EqS g 2 σ (as.map V.ref) (bs.map V.ref)
 | [], [], [], _, _, _, _ => .nil
 | [], _ :: _, [], _, h, _, _ => by cases h
 | [], _, _ :: _, h, _, _, _ => by cases h
 | _ :: _, _, [], h, _, _, _ => by cases h
 | _, [], _ :: _, _, h, _, _ => by cases h
 | a :: as, b :: bs, p :: ps, h1, h2, m1, m2 => .cons (EqE.list (m1 _ (.head _)) (m2 _ (.head _)) (EqS.map_pr (n := 0) p)) (EqS_refsP as bs ps (by simpa using h1) (by simpa using h2) (fun q hq => m1 q (.tail _ hq)) (fun q hq => m2 q (.tail _ hq)))
theorem EqS_refsI : ∀ (as bs : List Addr) (ps : List (List Int)), as.length = ps.length → bs.length = ps.length → (∀ p ∈ List.zipWith (fun a ps => (a, Cell.list (ps.map V.int))) as ps, p ∈ σ) → (∀ p ∈ List.zipWith (fun a ps => (a, Cell.list (ps.map V.int))) bs ps, p ∈ σ) → EqS g 2 σ (as.map V.ref) (bs.map V.ref)
 | [], [], [], _, _, _, _ => .nil
 | [], _ :: _, [], _, h, _, _ => by cases h
 | [], _, _ :: _, h, _, _, _ => by cases h
 | _ :: _, _, [], h, _, _, _ => by cases h
 | _, [], _ :: _, _, h, _, _ => by cases h
 | a :: as, b :: bs, p :: ps, h1, h2, m1, m2 => .cons (EqE.list (m1 _ (.head _)) (m2 _ (.head _)) (EqS.map_int (n := 1) p)) (EqS_refsI as bs ps (by simpa using h1) (by simpa using h2) (fun q hq => m1 q (.tail _ hq)) (fun q hq => m2 q (.tail _ hq)))
theorem dueF_at (D : DA) (t : St) : ∀ e ∈ BY D t, atS (BY D t) e.1 = some e.2 := by
 intro e he
 unfold BY at he
 simp only [List.mem_cons, List.not_mem_nil, or_false] at he
 rcases he with rfl | rfl | rfl | rfl | rfl | rfl | rfl | rfl | rfl | rfl | rfl | rfl <;> kernel_rfl
theorem HE (oks : Ok s) (okt : Ok t) (w : Big s b) (hs : Same s t) (ht : s.texts = List.replicate s.kinds.length es)
  (q : Q (.bool true) (AE B s ++ (AS D t ++ τ))) : Fn g (k + 1) 755 [.ref B.bd, .ref D.due] (AE B s ++ (AS D t ++ τ)) Q := by
 refine CT (R := AE B s) [(zs "due", .ref D.due), (zs "builder", .ref B.bd)] [(zs "builder", .ref B.bd)] (fun L => [(L + 1, .cell (some (.ref D.due)))]) (lk_law_is_due _) (cd_law_is_due _) (fun h vs i => by cases i with | cons i1 i => cases i with | cons i2 i => cases i; exact ⟨_, rfl, .cons i2 (.cons i1 .nil), by kernel_rfl⟩) rfl (fun L => rfl) (by decide +kernel) (fun L => by kernel_rfl) (fun L => ?_) (by kernel_rfl) (by kernel_rfl) (by kernel_rfl)
 conv in stB _ => whnf
 conv in stS _ => whnf
 have e0 : Fm (AE B s) L [(zs "builder", V.ref B.bd)] ([(L + 1, Cell.cell (some (V.ref D.due)))] ++ (AS D t ++ τ)) = (AE B s ++ [(L, Cell.ns [(zs "builder", V.ref B.bd)]), (L + 1, Cell.cell (some (V.ref D.due)))]) ++ (D.due, Cell.sdict (BY D t)) :: ((D.op, .list (t.opn.map V.int)) :: Cm D t ++ τ) := by
  rw [List.append_assoc]; rfl
 rw [e0]
 refine W.freeze (by rfl) fun ep => ?_
 have e1 : (AE B s ++ [(L, Cell.ns [(zs "builder", V.ref B.bd)]), (L + 1, Cell.cell (some (V.ref D.due)))]) ++ (D.due, Cell.pr (dP g (BY D t) ep)) :: ((D.op, .list (t.opn.map V.int)) :: Cm D t ++ τ) = Fm (AE B s) L [(zs "builder", V.ref B.bd)] ((L + 1, Cell.cell (some (V.ref D.due))) :: (D.due, Cell.pr (dP g (BY D t) ep)) :: (D.op, .list (t.opn.map V.int)) :: (Cm D t ++ τ)) := by
  rw [List.append_assoc]; rfl
 rw [e1]
 refine W.thaw (d := D.due) (es := BY D t) (ep := ep) ?_
 refine A6 ?_
 refine AD ?_
 refine AC ?_
 refine A4 rfl ?_
 refine CE ?_
 refine AF ?_
 refine A6 ?_
 refine AD ?_
 refine Af ?_
 refine A5 ?_
 refine AC ?_
 refine AC ?_
 refine A4 rfl ?_
 refine Ai ?_
 refine B2 ?_
 refine A5 ?_
 refine AC ?_
 refine AC ?_
 refine A4 rfl ?_
 refine Bj ?_
 refine Bf ?_
 refine A5 ?_
 refine AC ?_
 refine A4 rfl ?_
 refine Be ?_
 refine A5 ?_
 refine AC ?_
 refine A4 rfl ?_
 refine Bk ?_
 refine A5 ?_
 refine AC ?_
 refine A4 rfl ?_
 refine DX ?_
 refine A5 ?_
 refine AC ?_
 refine A4 rfl ?_
 refine Bl ?_
 refine A7 ?_
 refine ⟨_, _, _, _, rfl, sz_lit rfl, fun c => ?_⟩
 refine AF ?_
 refine A6 ?_
 refine AD ?_
 refine AP ?_
 refine A4 rfl ?_
 refine Af ?_
 refine A5 ?_
 refine AC ?_
 refine A4 rfl ?_
 refine CF ?_
 refine A5 ?_
 refine AC ?_
 refine A4 rfl ?_
 refine Bq ?_
 refine A5 ?_
 refine AC ?_
 refine A4 rfl ?_
 refine Hl ?_
 refine A5 ?_
 refine AC ?_
 refine A4 rfl ?_
 refine Hm ?_
 refine A5 ?_
 refine AC ?_
 refine A4 rfl ?_
 refine Cy ?_
 refine A5 ?_
 refine AC ?_
 refine A4 rfl ?_
 refine DW ?_
 refine A7 ?_
 refine ⟨_, _, _, _, rfl, sz_lit rfl, fun c => ?_⟩
 refine CU (by walk_at "mm") (by walk_at "mm") (by walk_at "sz") fun c => ?_
 refine AF ?_
 refine A6 ?_
 refine AG ?_
 refine E2 ?_
 refine AV ?_
 refine A4 rfl ?_
 refine Cp (cl := _) rfl (by decide) rfl (by decide) rfl ?_
 refine Al rfl (by walk_at "mm") ?_
 refine comp_keys (d := D.due) (es := BY D t) (ep := ep) (by walk_at "mm") (Nat.le_of_ble_eq_true (by kernel_rfl)) (fun e he C τ' => ?_) fun a => ?_
 ·refine AO ?_
  refine Al rfl (by walk_at "mm") ?_
  refine A4 rfl ?_
  refine O_itemDP (d := D.due) (es := BY D t) (ep := ep) (by walk_at "mm") (dueF_at D t e he) ?_
  exact ⟨rfl, rfl⟩
 have hR : ∀ p ∈ Cm D t, ∀ x y z w v u : Addr × Cell, ∀ m : Loc, p ∈ Fm (AE B s) L m (x :: y :: z :: w :: v :: u :: (D.op, Cell.list (t.opn.map V.int)) :: (Cm D t ++ τ)) := fun p hp x y z w v u m =>
  List.mem_append_right _ (.tail _ (.tail _ (.tail _ (.tail _ (.tail _ (.tail _ (.tail _ (.tail _ (List.mem_append_left _ hp)))))))))
 have hB : ∀ p ∈ aC s ++ cC s, ∀ X, p ∈ AE B s ++ X := fun p hp X => List.mem_append_left _ (List.mem_append_right _ hp)
 have hT : ∀ p ∈ aC t ++ cC t, p ∈ Cm D t := fun p hp => List.mem_append_right _ hp
 refine O_eqL (n := 3) (xs := [V.ref B.items, V.ref B.fitems, V.ref B.names, V.ref B.spaces, V.ref B.attrs, V.ref B.parents] ++ [V.ref B.children, V.ref B.contents, V.ref B.owners, V.ref B.errors, V.int s.form, V.ref B.kinds]) (ys := (BY D t).map fun x => x.2) (by walk_at "mm") (by walk_at "mm") ?eqs (by decide) ?_
 case eqs =>
  refine .cons (EqE.list (BQ _) (List.mem_append_right _ (.tail _ (.tail _ (.tail _ (.tail _ (.tail _ (.tail _ (.tail _ (.head _)))))))) ) (by rw [hs.opn]; exact EqS.map_int _)) ?_
  refine .cons (EqE.list (CD _) (hR _ (.head _) ..) (by rw [hs.fmt]; exact EqS.map_int _)) ?_
  refine .cons (EqE.list (HL _) (hR _ (.tail _ (.head _)) ..) (by rw [hs.names]; exact EqS.map_str _)) ?_
  refine .cons (EqE.list (FI _) (hR _ (.tail _ (.tail _ (.head _))) ..) (by rw [hs.spaces]; exact EqS.map_str _)) ?_
  refine .cons (EqE.list (HM _) (hR _ (.tail _ (.tail _ (.tail _ (.head _)))) ..) (EqS_refsP s.aA t.aA s.attrs (oks.aA.trans oks.at_.symm) (by rw [← hs.attrs]; exact okt.aA.trans okt.at_.symm) (fun p hp => hB p (List.mem_append_left _ hp) _) (fun p hp => hR p (hT p (List.mem_append_left _ (by unfold aC; rw [hs.attrs]; exact hp))) ..))) ?_
  refine .cons (EqE.list (EV _) (hR _ (.tail _ (.tail _ (.tail _ (.tail _ (.head _))))) ..) (by rw [hs.parents]; exact EqS.map_int _)) ?_
  refine .cons (EqE.list (Dh _) (hR _ (.tail _ (.tail _ (.tail _ (.tail _ (.tail _ (.head _)))))) ..) (EqS_refsI s.cA t.cA s.children (oks.cA.trans oks.ch.symm) (by rw [← hs.children]; exact okt.cA.trans okt.ch.symm) (fun p hp => hB p (List.mem_append_right _ hp) _) (fun p hp => hR p (hT p (List.mem_append_right _ (by unfold cC; rw [hs.children]; exact hp))) ..))) ?_
  refine .cons (EqE.idict (es := s.contents) (CR _) (by rw [← hs.contents]; exact hR _ (.tail _ (.tail _ (.tail _ (.tail _ (.tail _ (.tail _ (.head _))))))) ..)) ?_
  refine .cons (EqE.idict (es := s.owners) (m_owners _) (by rw [← hs.owners]; exact hR _ (.tail _ (.tail _ (.tail _ (.tail _ (.tail _ (.tail _ (.tail _ (.head _)))))))) ..)) ?_
  refine .cons (EqE.list (m_errors _) (hR _ (.tail _ (.tail _ (.tail _ (.tail _ (.tail _ (.tail _ (.tail _ (.tail _ (.head _))))))))) ..) (by rw [hs.errors]; exact EqS.map_pr (n := 1) _)) ?_
  refine .cons (by rw [hs.form]; exact EqE.int _) ?_
  refine .cons (EqE.list (FH _) (hR _ (.tail _ (.tail _ (.tail _ (.tail _ (.tail _ (.tail _ (.tail _ (.tail _ (.tail _ (.head _)))))))))) ..) (by rw [hs.kinds]; exact EqS.map_str _)) ?_
  exact .nil
 refine An ?_
 refine DY rfl ?_
 refine E2 ?_
 refine AV ?_
 refine AC ?_
 refine A4 rfl ?_
 refine A_t_texts ?_
 refine AP ?_
 refine Af ?_
 refine A5 ?_
 refine A9 ?_
 refine A7 ?_
 refine ⟨_, _, _, _, rfl, sz_lit rfl, fun c => ?_⟩
 refine Ar (BN _) rfl (by decide) ?_
 refine A5 ?_
 refine AC ?_
 refine A4 rfl ?_
 refine DW ?_
 refine A7 ?_
 have hk : s.kinds.length ≤ 1000000 := by rw [oks.ki]; exact Nat.le_trans w.n w.small
 refine BT (ds := s.kinds.map V.str) (FH _) (by rw [List.length_map]; exact line_le hk (by decide)) ?_
 rw [List.length_map]
 refine O_mulL (n := s.kinds.length) rfl (by walk_at "mm") hk fun a2 => ?_
 refine O_eqL (n := 1) (m_texts _) (by walk_at "mm") (by rw [ht, List.map_replicate]; exact (List.map_replicate (f := V.str) (n := s.kinds.length) (a := es)) ▸ EqS.map_str (List.replicate s.kinds.length es)) (by decide) ?_
 refine An ?_
 refine DY rfl ?_
 refine BS ?_
 refine AV ?_
 refine AC ?_
 refine A4 rfl ?_
 refine A_b_modes ?_
 refine Af ?_
 refine A7 ?_
 refine ⟨_, _, _, _, rfl, sz_lit rfl, fun c => ?_⟩
 refine O_eqNil (m_modes _) (by walk_at "mm") ?_
 exact thaw_fin q
end
end Mine
namespace Mine
noncomputable def mkL (a : Addr) (c : List V) : Addr × Cell := (a, .list c)
section
variable {g : G} {k : Nat} {B : BA} {D : DA} {s t : St} {τ σ R : Store} {Q : V → Store → Prop} {b : Nat} {L : Addr} {m : Loc} {env : Env}
theorem comp_copy {elt : Expr} {x : Str} {scope : Scope} {cl : List (Str × Addr)} {l : Addr} {as : List Addr} {cs : List (List V)} (hl : as.length = cs.length) (hm : (l, Cell.list (as.map V.ref)) ∈ Fm R L m τ) (hz : as.length ≤ 1000000)
  (turn : ∀ i (h1 : i < as.length) (h2 : i < cs.length) C τ' (Q' : V → Store → Prop), (∀ a, Q' (.ref a) (Fm (Fm R L m τ) C [(x, .ref as[i])] (mkL a cs[i] :: τ'))) → WE g k (Fm (Fm R L m τ) C [(x, .ref as[i])] τ') (compEnvC scope cl C env) elt Q')
  (q : ∀ a bs, bs.length = as.length → Q (.ref a) (Fm R L m ((a, .list (bs.map V.ref)) :: ((List.zipWith mkL bs cs).reverse ++ τ)))) : Cg g k (Fm R L m τ) env elt x [] scope cl (.ref l) Q := by
 refine ⟨R, L, m, τ, rfl, fun it I i ds X => I = itL g it l (as.map V.ref) ∧ i ≤ as.length ∧ ∃ bs : List Addr, bs.length = i ∧ ds = bs.map V.ref ∧ X = (List.zipWith mkL bs (cs.take i)).reverse, CQ hm fun it => ⟨⟨rfl, Nat.zero_le _, [], rfl, rfl, rfl⟩, Ib _ _ _⟩, ?_, ?_, ?_⟩
 ·rintro it I i ds X ⟨rfl, hi, bs, hb, rfl, rfl⟩
  refine ⟨?_, ?_, fun C m' D => List.mem_append_left _ hm⟩
  ·show i ≤ (as.map V.ref).length; rw [List.length_map]; exact hi
  ·rw [List.length_map, sizeLine_eq]; omega
 ·rintro it I i ds X C D hlt ⟨rfl, hi, bs, hb, rfl, rfl⟩
  have hlt' : i < as.length := by have h : i < (as.map V.ref).length := hlt; rwa [List.length_map] at h
  refine ifs0 (DY rfl ?_)
  have e : (itL g it l (as.map V.ref)).item i = .ref as[i] := by show (as.map V.ref).getD i .none = _; rw [List.getD_eq_getElem?_getD, List.getElem?_map, List.getElem?_eq_getElem hlt']; rfl
  rw [e]
  refine turn i hlt' (by omega) C _ _ fun a => ?_
  refine ⟨[mkL a (cs[i]'(by omega))], _, rfl, rfl, hlt', bs ++ [a], by simp [hb], by simp, ?_⟩
  rw [List.take_add_one, List.getElem?_eq_getElem (by omega : i < cs.length)]
  rw [List.zipWith_append (by rw [List.length_take]; omega), List.reverse_append]
  rfl
 ·rintro it I ds X D ⟨rfl, hi, bs, hb, rfl, rfl⟩
  have hn : (itL g it l (as.map V.ref)).n = as.length := by show (as.map V.ref).length = _; rw [List.length_map]
  rw [hn] at hb ⊢
  rw [hl, List.take_length]
  exact q D bs hb
theorem perm_copy (A1 A2 A3 CC AA τ : Store) : (A1 ++ (CC ++ (A2 ++ (AA ++ (A3 ++ τ))))).Perm (A1 ++ (A2 ++ (A3 ++ (AA ++ (CC ++ τ))))) := by
 refine List.Perm.append_left A1 ?_
 refine (List.perm_append_comm_assoc CC A2 _).trans (List.Perm.append_left A2 ?_)
 refine (List.Perm.append_left CC (List.perm_append_comm_assoc AA A3 τ)).trans ?_
 refine (List.perm_append_comm_assoc CC A3 _).trans (List.Perm.append_left A3 ?_)
 exact List.perm_append_comm_assoc CC AA τ
theorem zip_mem {α : Type} (f : α → Cell) (as : List Addr) (ps : List α) (i : Nat) (h1 : i < as.length) (h2 : i < ps.length) : (as[i], f ps[i]) ∈ List.zipWith (fun a p => (a, f p)) as ps := by
 have h : i < (List.zipWith (fun a p => (a, f p)) as ps).length := by rw [List.length_zipWith]; omega
 have := List.getElem_mem h
 rwa [List.getElem_zipWith] at this
noncomputable def St.copy (s : St) (aA cA : List Addr) : St := { s with aA := aA, cA := cA, owners := [], errors := [] }
noncomputable def cpY (s : St) (kin err own con chl par atl sp nm li op : Addr) (AA CC : List Addr) : Store :=
 [(kin, .list (s.kinds.map V.str)), (err, .list []), (own, .idict []), (con, .idict (s.contents.map dcV)), (chl, .list (CC.map V.ref))] ++ ((List.zipWith mkL CC (s.children.map fun ps => ps.map V.int)).reverse ++ ([(par, .list (s.parents.map V.int)), (atl, .list (AA.map V.ref))] ++ ((List.zipWith mkL AA (s.attrs.map fun ps => ps.map prV)).reverse ++ [(sp, .list (s.spaces.map V.str)), (nm, .list (s.names.map V.str)), (li, .list (s.fmt.map V.int)), (op, .list (s.opn.map V.int))])))
theorem cpY_perm (s : St) (due kin err own con chl par atl sp nm li op : Addr) (AA CC : List Addr) (τ : Store) :
  (cpY s kin err own con chl par atl sp nm li op AA CC ++ (due, .sdict (BY ⟨due, op, li, nm, sp, atl, par, chl, con, own, err, kin⟩ (s.copy AA CC))) :: τ).Perm (AS ⟨due, op, li, nm, sp, atl, par, chl, con, own, err, kin⟩ (s.copy AA CC) ++ τ) := by
 have ea : List.zipWith mkL AA (s.attrs.map fun ps => ps.map prV) = aC (s.copy AA CC) := by rw [List.zipWith_map_right]; rfl
 have ec : List.zipWith mkL CC (s.children.map fun ps => ps.map V.int) = cC (s.copy AA CC) := by rw [List.zipWith_map_right]; rfl
 unfold cpY
 rw [ea, ec]
 have h := perm_copy [(kin, Cell.list (s.kinds.map V.str)), (err, .list []), (own, .idict []), (con, .idict (s.contents.map dcV)), (chl, .list (CC.map V.ref))] [(par, .list (s.parents.map V.int)), (atl, .list (AA.map V.ref))] [(sp, .list (s.spaces.map V.str)), (nm, .list (s.names.map V.str)), (li, .list (s.fmt.map V.int)), (op, .list (s.opn.map V.int)), (due, .sdict (BY ⟨due, op, li, nm, sp, atl, par, chl, con, own, err, kin⟩ (s.copy AA CC)))] (cC (s.copy AA CC)).reverse (aC (s.copy AA CC)).reverse τ
 simp only [List.append_assoc, List.cons_append, List.nil_append] at h ⊢
 refine h.trans ?_
 unfold AS
 rw [List.append_assoc, List.append_assoc]
 have h2 : ((Dy ⟨due, op, li, nm, sp, atl, par, chl, con, own, err, kin⟩ (s.copy AA CC)).reverse ++ ((aC (s.copy AA CC)).reverse ++ ((cC (s.copy AA CC)).reverse ++ τ))).Perm (Dy ⟨due, op, li, nm, sp, atl, par, chl, con, own, err, kin⟩ (s.copy AA CC) ++ (aC (s.copy AA CC) ++ (cC (s.copy AA CC) ++ τ))) :=
  List.Perm.append (List.reverse_perm _) (List.Perm.append (List.reverse_perm _) (List.Perm.append (List.reverse_perm _) (List.Perm.refl _)))
 exact h2
theorem nodup_due : (["open", "list", "names", "spaces", "attrs", "parents", "children", "contents", "owners", "errors", "form", "kinds"].map Str.ofString).Nodup := by decide +kernel
theorem law_copy_spec (ok : Ok s) (w : Big s b)
  (q : ∀ D aA cA, aA.length = s.names.length → cA.length = s.names.length → Q (.ref D.due) (AE B s ++ (AS D (s.copy aA cA) ++ τ))) : Fn g (k + 1) 678 [.ref B.bd] (AE B s ++ τ) Q := by
 refine AN [(zs "builder", .ref B.bd)] (lk_law_copy _) (cd_law_copy _) (Fz (fun _ => by kernel_rfl) (by kernel_rfl)) (fun L => ?_) (by decide +kernel) (by kernel_rfl) (by kernel_rfl) (by kernel_rfl)
 conv in stB _ => whnf
 conv in stS _ => whnf
 have hn := Nat.le_trans w.n w.small
 have ho := Nat.le_trans w.opn w.small
 have hf := Nat.le_trans w.fmt w.small
 refine A6 ?_
 refine AD ?_
 refine AC ?_
 refine A4 rfl ?_
 refine CE ?_
 refine AF ?_
 refine A6 ?_
 refine AG ?_
 refine Ie ?h1 ?h2 ?h3 ?h4 ?h5
 case h1 => kernel_rfl
 case h2 => kernel_rfl
 case h3 => exact List.cons_ne_nil _ _
 case h4 => exact Nat.le_of_ble_eq_true (by kernel_rfl)
 intro due
 refine BV ?_
 refine Ap (C9 _) rfl (by decide) ?_
 refine A5 ?_
 refine AC ?_
 refine AC ?_
 refine A4 rfl ?_
 refine Ai ?_
 refine B2 ?_
 refine A7 ?_
 refine CB (BQ _) (by rw [List.length_map]; exact line_le ho (by decide)) fun op => ?_
 refine BV ?_
 refine Ap (C9 _) rfl (by decide) ?_
 refine A5 ?_
 refine AC ?_
 refine AC ?_
 refine A4 rfl ?_
 refine Bj ?_
 refine Bf ?_
 refine A7 ?_
 refine CB (CD _) (by rw [List.length_map]; exact line_le hf (by decide)) fun li => ?_
 refine BV ?_
 refine Ap (C9 _) rfl (by decide) ?_
 refine A5 ?_
 refine AC ?_
 refine A4 rfl ?_
 refine Be ?_
 refine A7 ?_
 refine CB (HL _) (by rw [List.length_map]; exact line_le hn (by decide)) fun nm => ?_
 refine BV ?_
 refine Ap (C9 _) rfl (by decide) ?_
 refine A5 ?_
 refine AC ?_
 refine A4 rfl ?_
 refine Bk ?_
 refine A7 ?_
 refine CB (FI _) (by rw [List.length_map, ok.sp]; exact line_le hn (by decide)) fun sp => ?_
 refine BV ?_
 refine Cp (cl := _) rfl (by decide) rfl (by decide) rfl ?_
 refine AC ?_
 refine A4 rfl ?_
 refine DX ?_
 refine comp_copy (l := B.attrs) (as := s.aA) (cs := s.attrs.map fun ps => ps.map prV) (by rw [List.length_map, ok.aA, ok.at_]) (HM _) (by rw [ok.aA]; exact hn) (fun i h1 h2 C τ' Q' q' => ?_) fun atl AA hAA => ?_
 ·have h2' : i < s.attrs.length := by rwa [List.length_map] at h2
  refine Ap (C9 _) rfl (by decide) ?_
  refine A5 ?_
  refine A4 rfl ?_
  refine A7 ?_
  refine CB (ds := (s.attrs[i]).map prV) (l := s.aA[i]) ?_ ?_ fun a => ?_
  ·exact List.mem_append_left _ (List.mem_append_left _ (List.mem_append_right _ (List.mem_append_left _ (zip_mem (fun ps => Cell.list (ps.map prV)) s.aA s.attrs i h1 h2'))))
  ·rw [List.length_map]; exact line_le (w.att _ (List.getElem_mem h2')) w.small
  ·have := q' a
   rwa [List.getElem_map] at this
 refine BV ?_
 refine Ap (C9 _) rfl (by decide) ?_
 refine A5 ?_
 refine AC ?_
 refine A4 rfl ?_
 refine Bl ?_
 refine A7 ?_
 refine CB (EV _) (by rw [List.length_map, ok.pa]; exact line_le hn (by decide)) fun par => ?_
 refine BV ?_
 refine Cp (cl := _) rfl (by decide) rfl (by decide) rfl ?_
 refine AC ?_
 refine A4 rfl ?_
 refine CF ?_
 refine comp_copy (l := B.children) (as := s.cA) (cs := s.children.map fun ps => ps.map V.int) (by rw [List.length_map, ok.cA, ok.ch]) (Dh _) (by rw [ok.cA]; exact hn) (fun i h1 h2 C τ' Q' q' => ?_) fun chl CC hCC => ?_
 ·have h2' : i < s.children.length := by rwa [List.length_map] at h2
  refine Ap (C9 _) rfl (by decide) ?_
  refine A5 ?_
  refine A4 rfl ?_
  refine A7 ?_
  refine CB (ds := (s.children[i]).map V.int) (l := s.cA[i]) ?_ ?_ fun a => ?_
  ·exact List.mem_append_left _ (List.mem_append_left _ (List.mem_append_right _ (List.mem_append_right _ (zip_mem (fun ps => Cell.list (ps.map V.int)) s.cA s.children i h1 h2'))))
  ·rw [List.length_map]; exact line_le (w.chi _ (List.getElem_mem h2')) w.small
  ·have := q' a
   rwa [List.getElem_map] at this
 refine BV ?_
 refine Ap (gl_dict _) rfl (by decide) ?_
 refine A5 ?_
 refine AC ?_
 refine A4 rfl ?_
 refine Bq ?_
 refine A7 ?_
 refine Cl_dictI (CR _) (by rw [List.length_map]; exact line_le w.con w.small) fun con => ?_
 refine BV ?_
 refine Fk fun own => ?_
 refine BV ?_
 refine Af ?_
 refine A7 ?_
 refine ⟨_, _, _, _, rfl, sz_lit rfl, fun c => ?_⟩
 refine BV ?_
 refine AC ?_
 refine A4 rfl ?_
 refine Cy ?_
 refine BV ?_
 refine Ap (C9 _) rfl (by decide) ?_
 refine A5 ?_
 refine AC ?_
 refine A4 rfl ?_
 refine DW ?_
 refine A7 ?_
 rename Addr => err
 refine CB (FH _) (by rw [List.length_map, ok.ki]; exact line_le hn (by decide)) fun kin => ?_
 refine WD_nil ?_
 refine ⟨cpY s kin err own con chl par atl sp nm li op AA CC, ?e1, ?e2, ?e3⟩
 case e1 => unfold cpY; simp only [List.cons_append, List.append_assoc, List.nil_append]
 case e2 => exact nodup_due
 case e3 => exact ⟨AE B s ++ (cpY s kin err own con chl par atl sp nm li op AA CC ++ (due, .sdict (BY ⟨due, op, li, nm, sp, atl, par, chl, con, own, err, kin⟩ (s.copy AA CC))) :: τ), _, List.Sublist.append_left (List.Sublist.cons _ (List.Sublist.refl _)) _, List.Perm.append_left _ (cpY_perm ..), q ⟨due, op, li, nm, sp, atl, par, chl, con, own, err, kin⟩ AA CC (hAA.trans ok.aA) (hCC.trans ok.cA)⟩
end
end Mine
namespace Mine
noncomputable def tags1 : List Str := sL ["li", "dd", "dt", "form", "button", "table", "xmp", "hr", "pre", "listing", "plaintext", "h1", "h2", "h3", "h4", "h5", "h6", "p", "div", "address", "article", "aside"]
noncomputable def tags2 : List Str := sL ["blockquote", "center", "details", "dialog", "dir", "dl", "fieldset", "figure", "footer", "header", "hgroup", "main", "nav", "ol", "section", "search"]
noncomputable def tagsW : List Str := sL ["li", "dd", "dt", "form", "button", "table", "xmp", "hr", "pre", "listing", "plaintext", "h1", "h2", "h3", "h4", "h5", "h6", "p", "div", "address", "article", "aside", "blockquote", "center", "details", "dialog", "dir", "dl", "fieldset", "figure", "footer", "header", "hgroup", "main", "nav", "ol", "section", "search", "ul"]
section
variable {g : G} {k : Nat} {τ σ R : Store} {Q : V → Store → Prop} {b : Nat} {L₀ : Addr} {m₀ : Loc}
theorem law_tags_spec (q : ∀ a, Q (.ref a) (Fm R L₀ m₀ ((a, .list (tagsW.map V.str)) :: τ))) : Fn g (k + 1) 661 [] (Fm R L₀ m₀ τ) Q := by
 refine Ch ?_
 refine AN [] (lk_law_tags _) (cd_law_tags _) (bnd0 (by kernel_rfl)) (fun L => ?_) (by decide +kernel) (by kernel_rfl) (by kernel_rfl) (by kernel_rfl)
 conv in stB _ => whnf
 conv in stS _ => whnf
 refine A6 ?_
 refine AD ?_
 refine A9 ?_
 refine AF ?_
 refine A6 ?_
 refine AD ?_
 refine A9 ?_
 refine AF ?_
 refine A6 ?_
 refine AG ?_
 refine AP ?_
 refine AP ?_
 refine AH ?_
 refine A4 rfl ?_
 refine By TyOf.str F.plainAttrs_str F.slot_str_split F.type_str_split ?_
 refine Bg (ws := tags1) (by kernel_rfl) (by kernel_rfl) (by kernel_rfl) (by kernel_rfl) fun a => ?_
 refine AH ?_
 refine A4 rfl ?_
 refine By TyOf.str F.plainAttrs_str F.slot_str_split F.type_str_split ?_
 refine Bg (ws := tags2) (by kernel_rfl) (by kernel_rfl) (by kernel_rfl) (by kernel_rfl) fun a => ?_
 refine CU (by walk_at "mm") (by walk_at "mm") (by walk_at "sz") fun c => ?_
 refine Af ?_
 refine A5 ?_
 refine A9 ?_
 refine A7 ?_
 refine ⟨_, _, _, _, rfl, sz_lit rfl, fun c => ?_⟩
 refine CU (by walk_at "mm") (by walk_at "mm") (by walk_at "sz") fun c => ?_
 rw [show tags1.map V.str ++ tags2.map V.str ++ [V.str (zs "ul")] = tagsW.map V.str by kernel_rfl]
 exact Db (q _)
noncomputable def Scr (g : G) (sa : Addr) (sc : List Int) : Prop := ∃ vs, g.hb.IsList sa vs.toArray ∧ ∀ h, IsS h vs (sc.map V.int)
theorem scr_at {sc : List Int} {sa : Addr} {h : HS} (x : Scr g sa sc) (S : SGd g σ h) : ∃ vs, h.IsList sa vs.toArray ∧ IsS h.toHeap vs (sc.map V.int) := by
 obtain ⟨vs, ⟨o, e, r⟩, i⟩ := x
 exact ⟨vs, ⟨o, S.keep _ _ e, r⟩, i _⟩
theorem O_itemS {value slice : Expr} {sc : List Int} {sa : Addr} {i : Int} {d : V} (x : Scr g sa sc) (h0 : 0 ≤ i) (hi : i < 2 ^ 63) (hd : (sc.map V.int)[i.toNat]? = some d) (q : Q d σ)
  (hs : ∀ o v, subscripted slice false o v = operate [o, v] (getItem o v) := by intro _ _; with_unfolding_all rfl) : O2 g k Is σ (subscriptTail value slice) (.ref sa) (.int i) Q := fun A r s v u S iv ju => by
 rw [Ae iv]; obtain ⟨t, rfl⟩ := Ab ju
 obtain ⟨vs, hl, is⟩ := scr_at x S
 obtain ⟨w, hw, iw⟩ := is.get _ _ hd
 exact tail_any hl.typeIs slot_list_getitem.lookup (wpAny_getItem_list hl h0 hi (by simpa using hw) (AM iw S q)) (hs _ _)
theorem Cl_lenS {sc : List Int} {sa : Addr} (x : Scr g sa sc) (hz : sc.length ≤ 1000) (q : Q (.int sc.length) σ) : Cl g k (.builtin "len") [.ref sa] σ Q := fun A r s vs S i => by
 obtain ⟨v, rfl, iv⟩ := G0 i
 rw [Ae iv]
 obtain ⟨items, hl, is⟩ := scr_at x S
 have hz' := line_le hz (by decide)
 refine Calls.call_len_list hl (by rw [List.size_toArray, is.length, List.length_map]; rw [sizeLine_eq] at hz'; omega) ?_
 rw [List.size_toArray, is.length, List.length_map]
 exact AM (s := { s with toks := s.toks + 1 + 1 }) (.int _ _) S q
noncomputable def digit (sc : List Int) (p : Nat) : Int := sc.getD p 0
theorem D5 {sc : List Int} {sa : Addr} {p : Int} (h0 : 0 ≤ p) (hp : p ≤ 1000) (hm : Scr g sa sc) (hz : sc.length ≤ 1000) (q : Q (.int (digit sc p.toNat)) (Fm R L₀ m₀ τ)) : Fn g (k + 1) 647 [.ref sa, .int p] (Fm R L₀ m₀ τ) Q := by
 refine Ch ?_
 refine AN [(zs "place", .int p), (zs "script", .ref sa)] (lk_law_digit _) (cd_law_digit _) (DB (fun _ _ => by kernel_rfl) (by kernel_rfl)) (fun L => ?_) (by decide +kernel) (by kernel_rfl) (by kernel_rfl) (by kernel_rfl)
 conv in stB _ => whnf
 conv in stS _ => whnf
 refine A6 ?_
 refine AG ?_
 refine E3 ?_
 refine AB ?_
 refine A4 rfl ?_
 refine Ar (BN _) rfl (by decide) ?_
 refine A5 ?_
 refine A4 rfl ?_
 refine A7 ?_
 refine Cl_lenS hm hz ?_
 refine O_ltI ?_
 refine ⟨_, rfl, ?_⟩
 refine AQ (fun h => ?_) (fun h => ?_)
 ·have h1 : p < sc.length := of_decide_eq_true h
  refine AO ?_
  refine A4 rfl ?_
  refine A4 rfl ?_
  refine O_itemS hm (d := .int (digit sc p.toNat)) h0 (by omega) ?_ ?_
  ·have : p.toNat < sc.length := by omega
   unfold digit
   rw [List.getElem?_map, List.getElem?_eq_getElem this, List.getD_eq_getElem?_getD, List.getElem?_eq_getElem this]; rfl
  exact EK q
 ·have h1 : ¬ p < sc.length := of_decide_eq_false h
  have e : digit sc p.toNat = 0 := by unfold digit; rw [List.getD_eq_getElem?_getD, List.getElem?_eq_none (by omega)]; rfl
  rw [e] at q
  refine AL ?_
  exact EK q
end
end Mine
namespace Mine
noncomputable def Bz (p : Str × Str) : Str := (p.1 ++ colon) ++ p.2
noncomputable def nmP (p : Str × Str) : Str := if p.1 = AU then p.2 else es
noncomputable def stopsP (p : Str × Str) (sort : Str) : Bool :=
 if sort == zs "select" then p.1 != AU || !(sL ["optgroup", "option"]).contains p.2
 else if sort == zs "table" then p.1 == AU && (sL ["html", "table", "template"]).contains p.2
 else if p.1 == zs "math" then (sL ["mi", "mo", "mn", "ms", "mtext", "annotation-xml"]).contains p.2
 else if p.1 == zs "svg" then (sL ["foreignObject", "desc", "title"]).contains p.2
 else if (sL ["applet", "caption", "html", "table", "td", "th", "marquee", "object", "template"]).contains p.2 then true
 else if sort == zs "list item" then (sL ["ol", "ul"]).contains p.2
 else sort == zs "button" && p.2 == zs "button"
noncomputable def itemP (p : Str × Str) : Bool := EW p.1 p.2 && !(p.1 == AU && passL.contains p.2)
noncomputable def Dc (sort x : Str) : Bool := if sort == CM then !passedW.contains x else if sort == buttonS then (endsW ++ [zs "html:button"]).contains x else endsW.contains x
noncomputable def liL : List Str := sL ["li"]
noncomputable def inP (ns : List Str) (p : Str × Str) : Bool := p.1 == AU && ns.contains p.2
noncomputable def faith (p : Str × Str) : Bool :=
 (stopsP p buttonS == Dc buttonS (Bz p)) && ((stopsP p es == Dc es (Bz p)) && ((itemP p == Dc CM (Bz p)) &&
 ((impliedL.contains (nmP p) == impliedW.contains (Bz p)) && ((headingL.contains (nmP p) == headW.contains (Bz p)) &&
 ((inP liL p == liW.contains (Bz p)) && ((inP ddL p == ddW.contains (Bz p)) && ((inP [pS] p == pW.contains (Bz p)) && ((inP [buttonS] p == btnW.contains (Bz p)) &&
 ((inP [templateS] p == [zs "html:template"].contains (Bz p)) && ((!inP [templateS] p || (Dc buttonS (Bz p) && (Dc es (Bz p) && Dc CM (Bz p)))) && (Nat.ble p.1.length 100 && Nat.ble p.2.length 100)))))))))))
noncomputable def htmlN : List Str := sL ["html", "body", "b", "h1", "p", "i", "span", "ul", "li", "div", "a", "address", "dl", "dd", "template", "h5", "form", "rt", "dt", "button", "h6", "td", "table", "option", "object", "ol", "dialog", "xmp", "hr", "pre", "listing", "plaintext", "h2", "h3", "h4", "article", "aside", "blockquote", "center", "details", "dir", "fieldset", "figure", "footer", "header", "hgroup", "main", "nav", "section", "search"]
noncomputable def svgN : List Str := sL ["p", "dt", "g", "desc", "li"]
noncomputable def mathN : List Str := sL ["mrow", "mi", "annotation-xml"]
noncomputable def OW : List (Str × Str) := htmlN.map (fun n => (AU, n)) ++ (svgN.map (fun n => (zs "svg", n)) ++ mathN.map (fun n => (zs "math", n)))
noncomputable def OF : List (Str × Str) := (sL ["a", "b", "i"]).map (fun n => (AU, n))
theorem OW_faith : OW.all faith = true := by decide +kernel
theorem OF_OW : OF.all (fun p => OW.contains p && p.1 == AU && p.2 != templateS) = true := by decide +kernel
structure Fai (p : Str × Str) : Prop where
 b : stopsP p buttonS = Dc buttonS (Bz p)
 e : stopsP p es = Dc es (Bz p)
 i : itemP p = Dc CM (Bz p)
 im : impliedL.contains (nmP p) = impliedW.contains (Bz p)
 hd : headingL.contains (nmP p) = headW.contains (Bz p)
 li : inP liL p = liW.contains (Bz p)
 dd : inP ddL p = ddW.contains (Bz p)
 pp : inP [pS] p = pW.contains (Bz p)
 bt : inP [buttonS] p = btnW.contains (Bz p)
 te : inP [templateS] p = [zs "html:template"].contains (Bz p)
 tE : inP [templateS] p = true → Dc buttonS (Bz p) = true ∧ Dc es (Bz p) = true ∧ Dc CM (Bz p) = true
 l1 : p.1.length ≤ 100
 l2 : p.2.length ≤ 100
theorem fai {p : Str × Str} (h : p ∈ OW) : Fai p := by
 have h := List.all_eq_true.mp OW_faith p h
 unfold faith at h
 simp only [Bool.and_eq_true, beq_iff_eq, Bool.or_eq_true, Bool.not_eq_true'] at h
 obtain ⟨h1, h2, h3, h4, h5, h6, h7, h8, h9, h10, h11, h12, h13⟩ := h
 refine ⟨h1, h2, h3, h4, h5, h6, h7, h8, h9, h10, fun q => ?_, Nat.le_of_ble_eq_true h12, Nat.le_of_ble_eq_true h13⟩
 rcases h11 with h | h
 ·rw [h] at q; cases q
 ·exact h
theorem split3 {α : Type} (P E : α → Bool) : ∀ (o : List α), (∃ pre x post, o = pre ++ x :: post ∧ P x = true ∧ ∀ y ∈ post, P y = false ∧ E y = false) ∨
  (∃ pre x post, o = pre ++ x :: post ∧ P x = false ∧ E x = true ∧ ∀ y ∈ post, P y = false ∧ E y = false) ∨ (∀ y ∈ o, P y = false ∧ E y = false)
 | [] => .inr (.inr fun y h => by cases h)
 | a :: o => by
  rcases split3 P E o with ⟨pre, x, post, rfl, h⟩ | ⟨pre, x, post, rfl, h⟩ | h
  ·exact .inl ⟨a :: pre, x, post, rfl, h⟩
  ·exact .inr (.inl ⟨a :: pre, x, post, rfl, h⟩)
  ·cases hP : P a with
   | true => exact .inl ⟨[], a, o, rfl, hP, h⟩
   | false =>
    cases hE : E a with
    | true => exact .inr (.inl ⟨[], a, o, rfl, hP, hE, h⟩)
    | false => exact .inr (.inr fun y hy => by
      rcases List.mem_cons.mp hy with rfl | hy
      ·exact ⟨hP, hE⟩
      ·exact h y hy)
noncomputable def Fs (P E : Int → Bool) : List Int → Option Int
 | [] => none
 | x :: r => if P x then some x else if E x then none else Fs P E r
theorem Dp {P E : Int → Bool} : ∀ {a r : List Int}, (∀ y ∈ a, P y = false ∧ E y = false) → Fs P E (a ++ r) = Fs P E r
 | [], r, h => rfl
 | x :: a, r, h => by
  show (if P x then _ else if E x then _ else _) = _
  rw [(h x (.head _)).1, (h x (.head _)).2]
  exact Dp fun y hy => h y (.tail _ hy)
theorem endsOf_eq (sort : Str) (ws : List Str) : D4 sort ws = ws.filter (Dc sort) := by
 unfold D4
 by_cases h1 : (sort == CM) = true
 ·rw [if_pos h1]; congr 1; funext x; unfold Dc; rw [if_pos h1]
 ·rw [if_neg h1]
  by_cases h2 : (sort == buttonS) = true
  ·rw [if_pos h2]; congr 1; funext x; unfold Dc; rw [if_neg h1, if_pos h2]
  ·rw [if_neg h2]; congr 1; funext x; unfold Dc; rw [if_neg h1, if_neg h2]
theorem EN {ws1 ws2 ns : List Str} (h : ∀ y ∈ ws2, ns.contains y = false) : Bm (ws1 ++ ws2) ns = Bm ws1 ns := by
 unfold Bm
 rw [List.length_append, List.range_add, List.filter_append]
 have h1 : ((List.range ws2.length).map (ws1.length + ·)).filter (fun i => ns.contains ((ws1 ++ ws2).getD i es)) = [] := by
  rw [List.filter_eq_nil_iff]
  intro i hi
  obtain ⟨j, hj, rfl⟩ := List.mem_map.mp hi
  have hj := List.mem_range.mp hj
  rw [List.getD_eq_getElem?_getD, List.getElem?_append_right (Nat.le_add_right _ _), Nat.add_sub_cancel_left, List.getElem?_eq_getElem hj]
  show ¬ ns.contains ws2[j] = true
  rw [h _ (List.getElem_mem hj)]; decide
 rw [h1, List.append_nil]
 refine List.filter_congr fun i hi => ?_
 have hi := List.mem_range.mp hi
 rw [List.getD_eq_getElem?_getD, List.getD_eq_getElem?_getD, List.getElem?_append_left hi]
theorem place_A {ws1 ws2 ns : List Str} {w sort : Str} (hw : ns.contains w = true) (h : ∀ y ∈ ws2, ns.contains y = false ∧ Dc sort y = false) : Av (ws1 ++ w :: ws2) ns sort = ws1.length := by
 have e : Bm (ws1 ++ w :: ws2) ns = Bm ws1 ns ++ [ws1.length] := by
  rw [show ws1 ++ w :: ws2 = (ws1 ++ [w]) ++ ws2 by simp, EN fun y hy => (h y hy).1]
  unfold Bm
  rw [List.length_append, List.length_singleton, List.range_succ, List.filter_append]
  congr 1
  ·refine List.filter_congr fun i hi => ?_
   have hi := List.mem_range.mp hi
   rw [List.getD_eq_getElem?_getD, List.getD_eq_getElem?_getD, List.getElem?_append_left hi]
  ·rw [List.filter_cons, List.getD_eq_getElem?_getD, List.getElem?_append_right (Nat.le_refl _), Nat.sub_self]
   show (if ns.contains w = true then _ else _) = _
   rw [if_pos hw]; rfl
 unfold Av
 rw [e, List.getLast?_concat]
 show (if (D4 sort ((ws1 ++ w :: ws2).drop (ws1.length + 1))).isEmpty = true then _ else _) = _
 rw [if_pos]
 rw [show ws1 ++ w :: ws2 = (ws1 ++ [w]) ++ ws2 by simp, List.drop_append_of_le_length (by simp), List.drop_of_length_le (by simp), List.nil_append, endsOf_eq, List.isEmpty_iff, List.filter_eq_nil_iff]
 intro y hy
 rw [(h y hy).2]; decide
theorem place_B {ws1 ws2 ns : List Str} {w sort : Str} (hw : ns.contains w = false) (he : Dc sort w = true) (h : ∀ y ∈ ws2, ns.contains y = false) : Av (ws1 ++ w :: ws2) ns sort = -1 := by
 have e : Bm (ws1 ++ w :: ws2) ns = Bm ws1 ns := EN fun y hy => by
  rcases List.mem_cons.mp hy with rfl | hy
  ·exact hw
  ·exact h y hy
 unfold Av
 rw [e]
 cases q : (Bm ws1 ns).getLast? with
 | none => rfl
 | some i =>
  have hi : i < ws1.length := F6 q
  show (if (D4 sort ((ws1 ++ w :: ws2).drop (i + 1))).isEmpty = true then _ else _) = _
  rw [if_neg]
  rw [List.drop_append_of_le_length (by omega), endsOf_eq, List.isEmpty_iff, List.filter_eq_nil_iff]
  intro q
  exact absurd he (q w (List.mem_append_right _ (.head _)))
theorem place_C {ws ns : List Str} {sort : Str} (h : ∀ y ∈ ws, ns.contains y = false) : Av ws ns sort = -1 := by
 unfold Av
 rw [show ws = [] ++ ws from rfl, EN h]; rfl
end Mine
namespace Mine
noncomputable def St.pr (s : St) (x : Int) : Str × Str := (s.sp x, s.na x)
theorem EZ {s : St} {pre post : List Int} {x : Int} (ho : s.opn = pre ++ x :: post) : s.wds = pre.map s.wd ++ s.wd x :: post.map s.wd := by
 unfold St.wds; rw [ho, List.map_append]; rfl
theorem cut {s : St} (P E : Int → Bool) (nsW : List Str) (sort : Str) (hP : ∀ x ∈ s.opn, P x = nsW.contains (s.wd x)) (hE : ∀ x ∈ s.opn, E x = Dc sort (s.wd x)) :
  (∃ pre x post, s.opn = pre ++ x :: post ∧ P x = true ∧ (∀ y ∈ post, P y = false ∧ E y = false) ∧ Av s.wds nsW sort = pre.length ∧ Fs P E s.opn.reverse = some x) ∨
  (Av s.wds nsW sort = -1 ∧ Fs P E s.opn.reverse = none) := by
 rcases split3 P E s.opn with ⟨pre, x, post, ho, hx, h⟩ | ⟨pre, x, post, ho, hx, he, h⟩ | h
 ·have hm : ∀ y ∈ post, y ∈ s.opn := fun y hy => by rw [ho]; exact List.mem_append_right _ (.tail _ hy)
  have hmx : x ∈ s.opn := by rw [ho]; exact List.mem_append_right _ (.head _)
  refine .inl ⟨pre, x, post, ho, hx, h, ?_, ?_⟩
  ·rw [EZ ho, place_A (hP x hmx ▸ hx) (fun y hy => ?_), List.length_map]
   obtain ⟨z, hz, rfl⟩ := List.mem_map.mp hy
   exact ⟨(hP z (hm z hz)).symm.trans (h z hz).1, (hE z (hm z hz)).symm.trans (h z hz).2⟩
  ·rw [ho, List.reverse_append, List.reverse_cons, List.append_assoc, Dp fun y hy => h y (List.mem_reverse.mp hy)]
   show (if P x = true then _ else _) = _
   rw [if_pos hx]
 ·have hm : ∀ y ∈ post, y ∈ s.opn := fun y hy => by rw [ho]; exact List.mem_append_right _ (.tail _ hy)
  have hmx : x ∈ s.opn := by rw [ho]; exact List.mem_append_right _ (.head _)
  refine .inr ⟨?_, ?_⟩
  ·rw [EZ ho, place_B (hP x hmx ▸ hx) (hE x hmx ▸ he) fun y hy => ?_]
   obtain ⟨z, hz, rfl⟩ := List.mem_map.mp hy
   exact (hP z (hm z hz)).symm.trans (h z hz).1
  ·rw [ho, List.reverse_append, List.reverse_cons, List.append_assoc, Dp fun y hy => h y (List.mem_reverse.mp hy)]
   show (if P x = true then _ else if E x = true then _ else _) = _
   rw [hx, he]; rfl
 ·refine .inr ⟨place_C fun y hy => ?_, ?_⟩
  ·obtain ⟨z, hz, rfl⟩ := List.mem_map.mp hy
   exact (hP z hz).symm.trans (h z hz).1
  ·rw [← List.append_nil s.opn.reverse, Dp fun y hy => h y (List.mem_reverse.mp hy)]; rfl
theorem popI_cut {s : St} {x : Int} {nm but : Str} {b : List Int} (hx : s.nmOf x = nm) (hb : (impliedL.contains nm && nm != but) = false) : ∀ (a : List Int), (∀ y ∈ a, s.nmOf y ≠ nm ∧ (impliedL.contains (s.nmOf y) = true → s.nmOf y ≠ but)) →
  ∃ a', s.popI but (a ++ x :: b) = a' ++ x :: b ∧ (∀ y ∈ a', s.nmOf y ≠ nm) ∧ a'.isEmpty = a.all (fun y => impliedL.contains (s.nmOf y))
 | [], h => ⟨[], by rw [List.nil_append, St.popI_cons, hx, hb]; rfl, (fun y hy => by cases hy), rfl⟩
 | y :: a, h => by
  obtain ⟨h1, h2⟩ := h y (.head _)
  rw [List.cons_append, St.popI_cons, List.all_cons]
  cases hi : impliedL.contains (s.nmOf y) with
  | true =>
   obtain ⟨a', e1, e2, e3⟩ := popI_cut (b := b) hx hb a fun z hz => h z (.tail _ hz)
   have : (s.nmOf y != but) = true := bne_iff_ne.mpr (h2 hi)
   rw [this]
   exact ⟨a', e1, e2, e3⟩
  | false => exact ⟨y :: a, rfl, fun z hz => by
    rcases List.mem_cons.mp hz with rfl | hz
    ·exact h1
    ·exact (h z (.tail _ hz)).1, rfl⟩
theorem popU_cut {s : St} {x : Int} {nm : Str} {b : List Int} (hx : s.nmOf x = nm) : ∀ (a : List Int), (∀ y ∈ a, s.nmOf y ≠ nm) → s.popU [nm] (a ++ x :: b) = b
 | [], h => by
  rw [List.nil_append, St.popU_cons, hx, if_pos]
  show (nm == nm || _) = true
  rw [beq_self_eq_true]; rfl
 | y :: a, h => by
  rw [List.cons_append, St.popU_cons, if_neg, popU_cut hx a fun z hz => h z (.tail _ hz)]
  rw [List.contains_iff_mem, List.mem_singleton]
  exact h y (.head _)
theorem clO_cut {s : St} {pre post : List Int} {x : Int} {nm but : Str} (ho : s.opn = pre ++ x :: post) (hx : s.nmOf x = nm) (hpost : ∀ y ∈ post, s.nmOf y ≠ nm ∧ (impliedL.contains (s.nmOf y) = true → s.nmOf y ≠ but)) (hb : (impliedL.contains nm && nm != but) = false) :
  (s.clO nm but s.opn.reverse).reverse = pre ∧ (s.nmR (s.popI but s.opn.reverse) != nm) = !post.all (fun y => impliedL.contains (s.nmOf y)) := by
 have e : s.opn.reverse = post.reverse ++ x :: pre.reverse := by rw [ho, List.reverse_append, List.reverse_cons, List.append_assoc]; rfl
 obtain ⟨a', e1, e2, e3⟩ := popI_cut (b := pre.reverse) hx hb post.reverse fun y hy => hpost y (List.mem_reverse.mp hy)
 unfold St.clO
 rw [e, e1, popU_cut hx a' e2, List.reverse_reverse, ← List.all_reverse, ← e3]
 refine ⟨rfl, ?_⟩
 cases a' with
 | nil => show (s.nmOf x != nm) = false; rw [hx, bne_self_eq_false]
 | cons y a => show (s.nmOf y != nm) = true; exact bne_iff_ne.mpr (e2 y (.head _))
theorem solid_cut {s : St} {pre post : List Int} {x : Int} (ho : s.opn = pre ++ x :: post) (n : ∀ y ∈ s.opn, s.pr y ∈ OW) : (solid (s.wds.drop (pre.length + 1))).isEmpty = post.all (fun y => impliedL.contains (s.nmOf y)) := by
 have e : s.wds.drop (pre.length + 1) = post.map s.wd := by
  rw [EZ ho, show pre.map s.wd ++ s.wd x :: post.map s.wd = (pre.map s.wd ++ [s.wd x]) ++ post.map s.wd by simp, List.drop_append_of_le_length (by simp), List.drop_of_length_le (by simp), List.nil_append]
 rw [e]
 unfold solid
 have hp : ∀ y ∈ post, impliedL.contains (s.nmOf y) = impliedW.contains (s.wd y) := fun y hy => (fai (n y (by rw [ho]; exact List.mem_append_right _ (.tail _ hy)))).im
 clear e ho
 induction post with
 | nil => rfl
 | cons y ys ih =>
  rw [List.map_cons, List.filter_cons, List.all_cons, hp y (.head _)]
  cases impliedW.contains (s.wd y) with
  | true => exact ih fun z hz => hp z (.tail _ hz)
  | false => rfl
theorem HQ {s : St} {pre rest : List Int} (ho : s.opn = pre ++ rest) (h : ∀ y ∈ rest, inP [templateS] (s.pr y) = false) : s.hasName templateS = pre.any fun x => s.ishtml x templateS := by
 unfold St.hasName
 rw [ho, List.any_append]
 have : rest.any (fun x => s.ishtml x templateS) = false := List.any_eq_false.mpr fun y hy q => by
  have h := h y hy
  unfold St.ishtml at q
  simp only [Bool.and_eq_true] at q
  unfold inP St.pr at h
  rw [q.1.2, show s.na y = templateS from eq_of_beq q.2] at h
  exact absurd h (by rw [show (true && [templateS].contains templateS) = true by decide]; decide)
 rw [this, Bool.or_false]
end Mine
namespace Mine
theorem Same.wds {s t : St} (h : Same s t) : t.wds = s.wds := by
 show t.opn.map (fun x => (t.spaces.getD x.toNat es ++ colon) ++ t.names.getD x.toNat es) = s.opn.map (fun x => (s.spaces.getD x.toNat es ++ colon) ++ s.names.getD x.toNat es)
 rw [h.opn, h.names, h.spaces]
theorem Same.oe {s t : St} (h : Same s t) {o o' : List Int} {e e' : List (Str × Str)} (ho : o' = o) (he : e' = e) : Same ((s.setErr e).setOpn o) ((t.setErr e').setOpn o') :=
 ⟨ho, h.fmt, h.names, h.spaces, h.attrs, h.parents, h.children, h.contents, h.owners, he, h.form, h.kinds⟩
theorem D6 {s : St} {ns : List Str} {sort : Str} : ∀ r, s.scope ns sort r = (Fs (fun x => inP ns (s.pr x)) (fun x => s.stops x sort) r).isSome
 | [] => rfl
 | x :: r => by
  rw [St.scope_cons]
  unfold Fs
  show _ = (if (s.sp x == AU && ns.contains (s.na x)) = true then _ else _ : Option Int).isSome
  split
  ·rfl
  ·split
   ·rfl
   ·exact D6 r
theorem F7 {s : St} {ns : List Str} : ∀ r, s.openI ns r = match Fs (fun x => inP ns (s.pr x)) (fun x => itemP (s.pr x)) r with | some x => s.na x | none => es
 | [] => rfl
 | x :: r => by
  rw [St.openI_cons]
  unfold Fs
  show _ = match (if (s.sp x == AU && ns.contains (s.na x)) = true then _ else if (EW (s.sp x) (s.na x) && !(s.sp x == AU && passL.contains (s.na x))) = true then _ else _ : Option Int) with | some x => s.na x | none => es
  split
  ·rfl
  ·split
   ·rfl
   ·exact F7 r
theorem inP_nm {s : St} {ns : List Str} {x : Int} (h : inP ns (s.pr x) = true) : s.nmOf x = s.na x ∧ ns.contains (s.na x) = true := by
 unfold inP at h
 obtain ⟨h1, h2⟩ := Bool.and_eq_true_iff.mp h
 exact ⟨if_pos (eq_of_beq h1), h2⟩
theorem nm_ne {s : St} {ns : List Str} {y : Int} {nm : Str} (hn : ns.contains nm = true) (he : nm ≠ es) (h : inP ns (s.pr y) = false) : s.nmOf y ≠ nm := fun e => by
 unfold St.nmOf at e
 split at e
 ·rename_i hs
  have : inP ns (s.pr y) = true := by
   show (s.sp y == AU && ns.contains (s.na y)) = true
   rw [hs, e, hn]; decide
  rw [this] at h; cases h
 ·exact he e.symm
theorem noT_x {ns : List Str} {p : Str × Str} (hns : ns.contains templateS = false) (h : inP ns p = true) : inP [templateS] p = false := by
 cases q : inP [templateS] p with
 | false => rfl
 | true =>
  unfold inP at q h
  have h1 := (Bool.and_eq_true_iff.mp h).2
  have h2 := List.contains_iff_mem.mp (Bool.and_eq_true_iff.mp q).2
  rw [List.mem_singleton.mp h2, hns] at h1; cases h1
theorem noT_y {p : Str × Str} {sort : Str} (f : Fai p) (hs : sort = buttonS ∨ sort = es ∨ sort = CM) (h : Dc sort (Bz p) = false) : inP [templateS] p = false := by
 cases q : inP [templateS] p with
 | false => rfl
 | true =>
  obtain ⟨h1, h2, h3⟩ := f.tE q
  rcases hs with rfl | rfl | rfl
  ·rw [h1] at h; cases h
  ·rw [h2] at h; cases h
  ·rw [h3] at h; cases h
theorem place_ne (n : Nat) : ((n : Int) == -1) = false := beq_eq_false_iff_ne.mpr (by omega)
theorem Gk {s t : St} (n : ∀ y ∈ s.opn, s.pr y ∈ OW) (hm : s.mode = inBody) (sm : Same s t) {nsW : List Str} {sort nm : Str} {pre post : List Int} {x : Int} (ho : s.opn = pre ++ x :: post) (hx : s.nmOf x = nm) (hpo : ∀ y ∈ post, s.nmOf y ≠ nm) (hpl : Av s.wds nsW sort = pre.length) :
  Same (s.closeN nm nm) (t.dclose nsW sort) ∧ (s.closeN nm nm).opn = pre := by
 obtain ⟨c1, c2⟩ := clO_cut (but := nm) ho hx (fun y hy => ⟨hpo y hy, fun _ => hpo y hy⟩) (by rw [bne_self_eq_false, Bool.and_false])
 have e2 : t.dclose nsW sort = (t.setErr (t.dclE pre.length)).setOpn (t.opn.take pre.length) := by
  unfold St.dclose
  rw [sm.wds, hpl, if_neg (by rw [place_ne]; decide)]; rfl
 have e3 : t.opn.take pre.length = pre := by rw [sm.opn, ho, List.take_append_of_le_length (Nat.le_refl _), List.take_length]
 have e4 : t.dclE pre.length = s.clE nm nm s.opn.reverse := by
  unfold St.dclE St.clE
  rw [sm.wds, Int.toNat_natCast, solid_cut ho n, c2, sm.errors, hm]
  cases post.all (fun y => impliedL.contains (s.nmOf y)) <;> rfl
 rw [e2, e3, e4]
 refine ⟨?_, c1⟩
 show Same ((s.setOpn (s.clO nm nm s.opn.reverse).reverse).setErr (s.clE nm nm s.opn.reverse)) _
 rw [c1]
 exact sm.oe rfl rfl
theorem Gl {s t : St} (sm : Same s t) {nsW : List Str} {sort : Str} (hpl : Av s.wds nsW sort = -1) : t.dclose nsW sort = t := by
 unfold St.dclose; rw [sm.wds, hpl]; rfl
theorem C4 {s t : St} (n : ∀ y ∈ s.opn, s.pr y ∈ OW) (hm : s.mode = inBody) (sm : Same s t) : Same s.leaveP (t.dclose pW buttonS) ∧ s.leaveP.hasName templateS = s.hasName templateS := by
 rcases cut (fun x => inP [pS] (s.pr x)) (fun x => s.stops x buttonS) pW buttonS (fun x hx => (fai (n x hx)).pp) (fun x hx => (fai (n x hx)).b) with ⟨pre, x, post, ho, hx, hpo, hpl, hf⟩ | ⟨hpl, hf⟩
 ·have hp : s.pIn = true := by unfold St.pIn; rw [D6, hf]; rfl
  have hnx : s.nmOf x = pS := by
   obtain ⟨e1, e2⟩ := inP_nm hx
   rw [e1]; exact List.mem_singleton.mp (List.contains_iff_mem.mp e2)
  obtain ⟨h1, h2⟩ := Gk (sort := buttonS) (nsW := pW) n hm sm ho hnx (fun y hy => nm_ne (ns := [pS]) (by decide) (by decide) (hpo y hy).1) hpl
  rw [St.leaveP_t hp]
  refine ⟨h1, ?_⟩
  rw [HQ ho fun y hy => ?_]
  ·show (s.closeN pS pS).opn.any (fun x => s.ishtml x templateS) = _
   rw [h2]
  ·rcases List.mem_cons.mp hy with rfl | hy
   ·exact noT_x (ns := [pS]) (by decide) hx
   ·have f := fai (n y (by rw [ho]; exact List.mem_append_right _ (.tail _ hy)))
    exact noT_y f (.inl rfl) (f.b.symm.trans (hpo y hy).2)
 ·have hp : s.pIn = false := by unfold St.pIn; rw [D6, hf]; rfl
  rw [St.leaveP_f hp, Gl sm hpl]
  exact ⟨sm, rfl⟩
theorem itemC_same {s t : St} {ns nsW : List Str} (n : ∀ y ∈ s.opn, s.pr y ∈ OW) (hm : s.mode = inBody) (sm : Same s t) (hP : ∀ p, Fai p → inP ns p = nsW.contains (Bz p)) (h0 : ns.contains es = false) (h1 : ns.contains templateS = false) :
  Same (s.itemC ns) (t.dclose nsW CM) ∧ (s.itemC ns).hasName templateS = s.hasName templateS := by
 rcases cut (fun x => inP ns (s.pr x)) (fun x => itemP (s.pr x)) nsW CM (fun x hx => hP _ (fai (n x hx))) (fun x hx => (fai (n x hx)).i) with ⟨pre, x, post, ho, hx, hpo, hpl, hf⟩ | ⟨hpl, hf⟩
 ·obtain ⟨e1, e2⟩ := inP_nm hx
  have hi : s.itemN ns = s.na x := by unfold St.itemN; rw [F7, hf]
  have hne : s.na x ≠ es := fun e => by rw [e, h0] at e2; cases e2
  have hc : s.itemC ns = s.closeN (s.na x) (s.na x) := by unfold St.itemC; rw [hi, if_pos (bne_iff_ne.mpr hne)]
  obtain ⟨g1, g2⟩ := Gk (sort := CM) (nsW := nsW) n hm sm ho e1 (fun y hy => nm_ne e2 hne (hpo y hy).1) hpl
  rw [hc]
  refine ⟨g1, ?_⟩
  rw [HQ ho fun y hy => ?_]
  ·show (s.closeN (s.na x) (s.na x)).opn.any (fun x => s.ishtml x templateS) = _
   rw [g2]
  ·rcases List.mem_cons.mp hy with rfl | hy
   ·exact noT_x h1 hx
   ·have f := fai (n y (by rw [ho]; exact List.mem_append_right _ (.tail _ hy)))
    exact noT_y f (.inr (.inr rfl)) (f.i.symm.trans (hpo y hy).2)
 ·have hi : s.itemN ns = es := by unfold St.itemN; rw [F7, hf]
  have hc : s.itemC ns = s := by unfold St.itemC; rw [hi, if_neg (by decide)]
  rw [hc, Gl sm hpl]
  exact ⟨sm, rfl⟩
theorem btnC_same {s t : St} (n : ∀ y ∈ s.opn, s.pr y ∈ OW) (hm : s.mode = inBody) (sm : Same s t) : Same s.btnC (if decide (t.btnP ≥ 0) then (t.dErr BL).setOpn (t.opn.take t.btnP.toNat) else t) ∧ s.btnC.hasName templateS = s.hasName templateS := by
 have ew : t.btnP = Av s.wds btnW es := by unfold St.btnP; rw [sm.wds]
 rcases cut (fun x => inP [buttonS] (s.pr x)) (fun x => s.stops x es) btnW es (fun x hx => (fai (n x hx)).bt) (fun x hx => (fai (n x hx)).e) with ⟨pre, x, post, ho, hx, hpo, hpl, hf⟩ | ⟨hpl, hf⟩
 ·have hp : s.bIn = true := by unfold St.bIn; rw [D6, hf]; rfl
  have hnx : s.nmOf x = buttonS := by
   obtain ⟨e1, e2⟩ := inP_nm hx
   rw [e1]; exact List.mem_singleton.mp (List.contains_iff_mem.mp e2)
  obtain ⟨c1, c2⟩ := clO_cut (but := es) ho hnx (fun y hy => ⟨nm_ne (ns := [buttonS]) (by decide) (by decide) (hpo y hy).1, fun q e => by rw [e] at q; revert q; decide⟩) (by decide)
  rw [St.btnC_t hp, ew, hpl, if_pos (by rw [decide_eq_true_eq]; omega), Int.toNat_natCast, c1]
  refine ⟨sm.oe (by rw [sm.opn, ho, List.take_append_of_le_length (Nat.le_refl _), List.take_length]) (by rw [sm.errors, hm]), ?_⟩
  rw [HQ ho fun y hy => ?_]
  ·rfl
  ·rcases List.mem_cons.mp hy with rfl | hy
   ·exact noT_x (ns := [buttonS]) (by decide) hx
   ·have f := fai (n y (by rw [ho]; exact List.mem_append_right _ (.tail _ hy)))
    exact noT_y f (.inr (.inl rfl)) (f.e.symm.trans (hpo y hy).2)
 ·have hp : s.bIn = false := by unfold St.bIn; rw [D6, hf]; rfl
  rw [St.btnC_f hp, ew, hpl, if_neg (by decide)]
  exact ⟨sm, rfl⟩
theorem tags_hd : tagsW.all (fun n => headingL.contains n == headW.contains (Gj ++ n)) = true := by decide +kernel
theorem headed_same {s t : St} (n : ∀ y ∈ s.opn, s.pr y ∈ OW) (hm : s.mode = inBody) (sm : Same s t) {name : Str} (hn : name ∈ tagsW) : Same (s.headed name) (t.d4' name) ∧ (s.headed name).hasName templateS = s.hasName templateS := by
 have eh : headingL.contains name = headW.contains (Gj ++ name) := eq_of_beq (List.all_eq_true.mp tags_hd name hn)
 have e1 : t.isHdD name = s.isHd name := by
  unfold St.isHdD St.isHd
  rw [eh, sm.opn, sm.wds]
  congr 1
  unfold St.nm
  cases hl : s.opn.getLast? with
  | none => rw [List.getLast?_eq_none_iff] at hl; rw [hl]; exact (show headingL.contains es = false by decide).symm
  | some x =>
   obtain ⟨o, ho⟩ := List.getLast?_eq_some_iff.mp hl
   have hx : s.pr x ∈ OW := n x (by rw [ho]; simp)
   rw [EZ (pre := o) (x := x) (post := []) ho, ho, List.map_nil, List.getLastD_eq_getLast?, List.getLast?_concat, show (o ++ [x]).isEmpty = false by simp]
   exact (fai hx).hd.symm
 unfold St.d4'
 rw [e1]
 cases hh : s.isHd name with
 | false => rw [St.headed_f hh]; exact ⟨sm, rfl⟩
 | true =>
  rw [St.headed_t hh, if_pos rfl]
  refine ⟨sm.oe (by rw [sm.opn]) (by rw [sm.errors, hm]), ?_⟩
  unfold St.isHd at hh
  have hh := (Bool.and_eq_true_iff.mp hh).2
  unfold St.nm at hh
  cases hl : s.opn.getLast? with
  | none => rw [hl] at hh; exact absurd (show headingL.contains es = true from hh) (by decide)
  | some x =>
   rw [hl] at hh
   obtain ⟨o, ho⟩ := List.getLast?_eq_some_iff.mp hl
   rw [HQ ho fun y hy => ?_]
   ·show (s.opn.dropLast).any _ = _
    rw [ho, List.dropLast_concat]; rfl
   ·rw [List.mem_singleton.mp hy]
    cases q : inP [templateS] (s.pr x) with
    | false => rfl
    | true =>
     obtain ⟨e1, e2⟩ := inP_nm q
     have hh : headingL.contains (s.nmOf x) = true := hh
     rw [e1, List.mem_singleton.mp (List.contains_iff_mem.mp e2)] at hh
     revert hh; decide
end Mine
namespace Mine
theorem Same.put {s t : St} (h : Same s t) (name : Str) (attrs : List (Str × Str)) (a c a' c' : Addr) : Same (s.put name attrs a c) (t.put name attrs a' c') := by
 cases s; cases t
 obtain ⟨h1, h2, h3, h4, h5, h6, h7, h8, h9, h10, h11, h12⟩ := h
 simp only at h1 h2 h3 h4 h5 h6 h7 h8 h9 h10 h11 h12
 subst h1 h2 h3 h4 h5 h6 h7 h8 h9 h10 h11 h12
 exact ⟨rfl, rfl, rfl, rfl, rfl, rfl, rfl, rfl, rfl, rfl, rfl, rfl⟩
theorem Same.setFmt {s t : St} (h : Same s t) {f f' : List Int} (e : f' = f) : Same { s with fmt := f } { t with fmt := f' } :=
 ⟨h.opn, e, h.names, h.spaces, h.attrs, h.parents, h.children, h.contents, h.owners, h.errors, h.form, h.kinds⟩
theorem Same.reOne {s t : St} (h : Same s t) (i : Nat) (a c a' c' : Addr) : Same (s.reOne i a c) (t.reOne i a' c') := by
 unfold St.reOne
 have e1 : t.na (t.fmt.getD i (-1)) = s.na (s.fmt.getD i (-1)) := by unfold St.na; rw [h.fmt, h.names]
 have e2 : t.at (t.fmt.getD i (-1)) = s.at (s.fmt.getD i (-1)) := by unfold St.at; rw [h.fmt, h.attrs]
 rw [e1, e2]
 exact (h.put ..).setFmt (by rw [h.fmt, h.names])
theorem Same.reGo : ∀ (f : Nat) {s t : St} (h : Same s t) (i : Nat), Same (s.reGo i f) (t.reGo i f)
 | 0, _, _, h, _ => h
 | f + 1, _, _, h, i => Same.reGo f (h.reOne i 0 0 0 0) (i + 1)
theorem Same.reAt {s t : St} (h : Same s t) : ∀ n, t.reAt n = s.reAt n
 | 0 => rfl
 | n + 1 => by
  unfold St.reAt
  rw [h.fmt, h.opn, h.reAt n]
theorem Same.recon {s t : St} (h : Same s t) : Same s.recon t.recon := by
 unfold St.recon
 rw [h.reAt, h.fmt]
 exact h.reGo ..
theorem sp_put {s : St} {x : Int} (h0 : 0 ≤ x) (h1 : x < s.names.length) (ok : s.spaces.length = s.names.length) (name : Str) (attrs : List (Str × Str)) (a c : Addr) : (s.put name attrs a c).sp x = s.sp x := by
 unfold St.sp
 show (s.spaces ++ [AU]).getD _ _ = _
 rw [List.getD_eq_getElem?_getD, List.getD_eq_getElem?_getD, List.getElem?_append_left (by omega)]
theorem pr_put {s : St} (ok : Ok s) {x : Int} (h0 : 0 ≤ x) (h1 : x < s.names.length) (name : Str) (attrs : List (Str × Str)) (a c : Addr) : (s.put name attrs a c).pr x = s.pr x := by
 unfold St.pr; rw [sp_put h0 h1 ok.sp, na_put h0 h1]
theorem pr_new {s : St} (ok : Ok s) (name : Str) (attrs : List (Str × Str)) (a c : Addr) : (s.put name attrs a c).pr s.names.length = (AU, name) := by
 unfold St.pr St.sp St.na
 show ((s.spaces ++ [AU]).getD _ _, (s.names ++ [name]).getD _ _) = _
 rw [Int.toNat_natCast, List.getD_eq_getElem?_getD, List.getD_eq_getElem?_getD, ← ok.sp, List.getElem?_concat_length, ok.sp, List.getElem?_concat_length]; rfl
structure Nice (s : St) : Prop where
 opn : ∀ x ∈ s.opn, s.pr x ∈ OW
 fmt : ∀ x ∈ s.fmt, x = -1 ∨ s.pr x ∈ OF
 tx : Txt s
 c0 : s.con 0 = none
 te : s.texts = List.replicate s.kinds.length es
theorem Nice.of {s t : St} (h : Nice s) (e1 : t.opn = s.opn) (e2 : t.fmt = s.fmt) (e3 : t.names = s.names) (e4 : t.spaces = s.spaces) (e5 : t.contents = s.contents) (e6 : t.texts = s.texts) (e7 : t.kinds = s.kinds) : Nice t := by
 have ep : ∀ x, t.pr x = s.pr x := fun x => by unfold St.pr St.sp St.na; rw [e3, e4]
 exact ⟨fun x hx => by rw [ep]; exact h.opn x (e1 ▸ hx), fun x hx => by rw [ep]; exact h.fmt x (e2 ▸ hx), h.tx.of e3 e4, by unfold St.con; rw [e5]; exact h.c0, by rw [e6, e7]; exact h.te⟩
theorem Nice.of_noA {s t : St} (h : Nice s) (e : t.noA = s.noA) : Nice t :=
 h.of (congrArg St.opn e : t.noA.opn = s.noA.opn) (congrArg St.fmt e : t.noA.fmt = s.noA.fmt) (congrArg St.names e : t.noA.names = s.noA.names) (congrArg St.spaces e : t.noA.spaces = s.noA.spaces) (congrArg St.contents e : t.noA.contents = s.noA.contents) (congrArg St.texts e : t.noA.texts = s.noA.texts) (congrArg St.kinds e : t.noA.kinds = s.noA.kinds)
theorem Nice.oe {s : St} (h : Nice s) {o : List Int} {e : List (Str × Str)} (ho : ∀ x ∈ o, x ∈ s.opn) : Nice ((s.setOpn o).setErr e) :=
 ⟨fun x hx => h.opn x (ho x hx), h.fmt, h.tx.of rfl rfl, h.c0, h.te⟩
theorem Nice.put {s : St} (h : Nice s) (ok : Ok s) {name : Str} (hn : (AU, name) ∈ OW) (attrs : List (Str × Str)) (a c : Addr) : Nice (s.put name attrs a c) := by
 refine ⟨fun x hx => ?_, fun x hx => ?_, ⟨fun x hx => ?_, fun x hx => ?_⟩, (con_put ..).trans h.c0, ?_⟩
 ·rcases List.mem_append.mp hx with hx | hx
  ·obtain ⟨h0, h1⟩ := ok.opn x hx
   rw [pr_put ok h0 h1]; exact h.opn x hx
  ·rw [List.mem_singleton.mp hx, pr_new ok]; exact hn
 ·rcases ok.fmt x hx with e | ⟨h0, h1⟩
  ·exact .inl e
  ·rw [pr_put ok h0 h1]; exact h.fmt x hx
 ·rcases List.mem_append.mp hx with hx | hx
  ·exact h.tx.n x hx
  ·rw [List.mem_singleton.mp hx]; exact (fai hn).l2
 ·rcases List.mem_append.mp hx with hx | hx
  ·exact h.tx.sp x hx
  ·rw [List.mem_singleton.mp hx]; decide
 ·show s.texts ++ [es] = List.replicate (s.kinds ++ [Ao]).length es
  rw [List.length_append, List.length_singleton, List.replicate_succ', h.te]
theorem of_F {p : Str × Str} (h : p ∈ OF) : p ∈ OW ∧ p.1 = AU ∧ p.2 ≠ templateS := by
 have := List.all_eq_true.mp OF_OW p h
 simp only [Bool.and_eq_true, List.contains_iff_mem, beq_iff_eq, bne_iff_ne] at this
 exact ⟨this.1.1, this.1.2, this.2⟩
theorem Nice.fItem {s : St} (h : Nice s) {i : Nat} (hi : i < s.fmt.length) (hne : s.fmt.getD i (-1) ≠ -1) : s.pr (s.fmt.getD i (-1)) ∈ OF := by
 rw [List.getD_eq_getElem?_getD, List.getElem?_eq_getElem hi] at hne ⊢
 exact (h.fmt _ (List.getElem_mem hi)).resolve_left hne
theorem Nice.reOne {s : St} (h : Nice s) (ok : Ok s) {i : Nat} (hi : i < s.fmt.length) (hne : s.fmt.getD i (-1) ≠ -1) (a c : Addr) : Nice (s.reOne i a c) := by
 have hF := h.fItem hi hne
 obtain ⟨g1, g2, g3⟩ := of_F hF
 have e : s.pr (s.fmt.getD i (-1)) = (AU, s.na (s.fmt.getD i (-1))) := by
  show (s.sp _, s.na _) = _
  rw [show s.sp (s.fmt.getD i (-1)) = AU from g2]
 have n1 := h.put ok (e ▸ g1) (s.at (s.fmt.getD i (-1))) a c
 unfold St.reOne
 refine ⟨n1.opn, fun x hx => ?_, n1.tx.of rfl rfl, n1.c0, n1.te⟩
 have hx : x ∈ s.fmt.set i s.names.length := hx
 rcases List.mem_or_eq_of_mem_set hx with hx | rfl
 ·exact n1.fmt x hx
 ·right
  show (s.put (s.na (s.fmt.getD i (-1))) (s.at (s.fmt.getD i (-1))) a c).pr s.names.length ∈ OF
  rw [pr_new ok, ← e]; exact hF
theorem Dd (s : St) (i : Nat) (a c : Addr) : (s.reOne i a c).fmt = s.fmt.set i s.names.length := rfl
theorem Nice.reGo : ∀ (f : Nat) {s : St} (h : Nice s) (ok : Ok s) (i : Nat), i + f ≤ s.fmt.length → (∀ j, i ≤ j → j < i + f → s.fmt.getD j (-1) ≠ -1) → Nice (s.reGo i f)
 | 0, _, h, _, _, _, _ => h
 | f + 1, s, h, ok, i, hl, hj => by
  refine Nice.reGo f (h.reOne ok (by omega) (hj i (Nat.le_refl _) (by omega)) 0 0) ok.reOne (i + 1) (by rw [Dd, List.length_set]; omega) fun j h1 h2 => ?_
  rw [Dd, DK (by omega)]
  exact hj j (by omega) (by omega)
theorem Nice.recon {s : St} (h : Nice s) (ok : Ok s) : Nice s.recon := by
 have hle := s.reAt_le s.fmt.length
 exact h.reGo _ ok _ (by omega) fun j h1 h2 => s.reAt_neg _ j h1 (by omega)
theorem Ip {α : Type} {p q : α → Bool} : ∀ {l : List α}, (∀ x ∈ l, p x = q x) → l.any p = l.any q
 | [], _ => rfl
 | x :: l, h => by rw [List.any_cons, List.any_cons, h x (.head _), Ip fun y hy => h y (.tail _ hy)]
theorem hasN_put {s : St} (ok : Ok s) {name : Str} (hn : name ≠ templateS) (attrs : List (Str × Str)) (a c : Addr) : (s.put name attrs a c).hasName templateS = s.hasName templateS := by
 unfold St.hasName
 show (s.opn ++ [(s.names.length : Int)]).any _ = _
 rw [List.any_append]
 have e1 : [(s.names.length : Int)].any (fun x => (s.put name attrs a c).ishtml x templateS) = false := by
  show ((s.put name attrs a c).ishtml s.names.length templateS || false) = false
  unfold St.ishtml
  have := congrArg Prod.snd (pr_new ok name attrs a c)
  rw [show (s.put name attrs a c).na s.names.length = name from this, show (name == templateS) = false from beq_eq_false_iff_ne.mpr hn, Bool.and_false]; rfl
 rw [e1, Bool.or_false]
 refine Ip fun x hx => ?_
 obtain ⟨h0, h1⟩ := ok.opn x hx
 have := pr_put ok h0 h1 name attrs a c
 unfold St.ishtml
 rw [show (s.put name attrs a c).sp x = s.sp x from congrArg Prod.fst this, show (s.put name attrs a c).na x = s.na x from congrArg Prod.snd this]
theorem hasN_reGo : ∀ (f : Nat) {s : St} (h : Nice s) (ok : Ok s) (i : Nat), i + f ≤ s.fmt.length → (∀ j, i ≤ j → j < i + f → s.fmt.getD j (-1) ≠ -1) → (s.reGo i f).hasName templateS = s.hasName templateS
 | 0, _, h, _, _, _, _ => rfl
 | f + 1, s, h, ok, i, hl, hj => by
  have hne := hj i (Nat.le_refl _) (by omega)
  have h1 := hasN_reGo f (h.reOne ok (by omega) hne 0 0) ok.reOne (i + 1) (by rw [Dd, List.length_set]; omega) fun j h1 h2 => by
   rw [Dd, DK (by omega)]
   exact hj j (by omega) (by omega)
  refine Eq.trans h1 ?_
  exact hasN_put (name := s.na (s.fmt.getD i (-1))) ok (of_F (h.fItem (by omega) hne)).2.2 (s.at (s.fmt.getD i (-1))) 0 0
theorem Iq {s : St} (h : Nice s) (ok : Ok s) : s.recon.hasName templateS = s.hasName templateS := by
 have hle := s.reAt_le s.fmt.length
 exact hasN_reGo _ h ok _ (by omega) fun j h1 h2 => s.reAt_neg _ j h1 (by omega)
theorem Ok.reGo : ∀ (f : Nat) {s : St} (ok : Ok s) (i : Nat), Ok (s.reGo i f)
 | 0, _, ok, _ => ok
 | f + 1, _, ok, i => Ok.reGo f ok.reOne (i + 1)
theorem Ok.recon {s : St} (ok : Ok s) : Ok s.recon := ok.reGo _ _
theorem fmt_reGo : ∀ (f : Nat) (s : St) (i : Nat), (s.reGo i f).fmt.length = s.fmt.length
 | 0, _, _ => rfl
 | f + 1, s, i => (fmt_reGo f _ _).trans (by rw [Dd, List.length_set])
theorem fmt_recon (s : St) : s.recon.fmt.length = s.fmt.length := fmt_reGo _ _ _
noncomputable def rowsL : List (List (Str × Str)) := [[], [(zs "id", zs "x"), (zs "form", zs "f")], [(zs "title", zs "form")]]
theorem tags_fd : tagsW.all (fun n => (formedL.contains n == bfL.contains n) && ((n == zs "img") == false && (n != templateS && OW.contains (AU, n)))) = true := by decide +kernel
theorem rows_f : rowsL.all (fun r => (r.find? (fun p => p.1 == zs "form")).isNone == !r.contains (Ad, fS)) = true := by decide +kernel
structure Tag (n : Str) : Prop where
 f : formedL.contains n = bfL.contains n
 i : (n == zs "img") = false
 t : n ≠ templateS
 w : (AU, n) ∈ OW
theorem tag {n : Str} (h : n ∈ tagsW) : Tag n := by
 have := List.all_eq_true.mp tags_fd n h
 simp only [Bool.and_eq_true, beq_iff_eq, bne_iff_ne, List.contains_iff_mem] at this
 obtain ⟨h1, h2, h3, h4⟩ := this
 exact ⟨h1, h2, h3, h4⟩
theorem at_new {s : St} (ok : Ok s) (name : Str) (attrs : List (Str × Str)) (a c : Addr) : (s.put name attrs a c).at s.names.length = attrs := by
 unfold St.at
 show (s.attrs ++ [attrs]).getD _ _ = _
 rw [Int.toNat_natCast, List.getD_eq_getElem?_getD, ← ok.at_, List.getElem?_concat_length]; rfl
theorem GN {s t : St} (sm : Same s t) (ok : Ok s) {name : Str} (hn : name ∈ tagsW) {attrs : List (Str × Str)} (ha : attrs ∈ rowsL) {w : Bool} (hw : s.hasName templateS = w) (a c a' c' : Addr) :
  Same (s.tokd name attrs a c) ((t.put name attrs a' c').dOwn w name attrs t.names.length) := by
 have T := tag hn
 have sp := sm.put name attrs a c a' c'
 have hr : (attrs.find? (fun p => p.1 == zs "form")).isNone = !attrs.contains (Ad, fS) := eq_of_beq (List.all_eq_true.mp rows_f attrs ha)
 have e1 : (s.put name attrs a c).na s.names.length = name := congrArg Prod.snd (pr_new ok name attrs a c)
 have e2 := at_new ok name attrs a c
 have e3 := hasN_put ok T.t attrs a c
 have e4 : (t.put name attrs a' c').form = (s.put name attrs a c).form := sp.form
 have ec : ((s.put name attrs a c).form != -1 && (formedL.contains name && ((name == zs "img" || (attrs.find? (fun p => p.1 == zs "form")).isNone) && !s.hasName templateS))) = ownsB (s.put name attrs a c).form w name attrs := by
  unfold ownsB
  rw [T.f, T.i, hr, hw, Bool.false_or]
  cases bfL.contains name <;> cases ((s.put name attrs a c).form != -1) <;> cases w <;> cases attrs.contains (Ad, fS) <;> rfl
 unfold St.tokd St.assoc St.dOwn
 rw [e1, e2, e3, ec, e4, sm.names]
 split
 ·exact ⟨sp.opn, sp.fmt, sp.names, sp.spaces, sp.attrs, sp.parents, sp.children, sp.contents, congrArg (IO _ _) sp.owners, sp.errors, sp.form, sp.kinds⟩
 ·exact sp
theorem Nice.assoc {s : St} (h : Nice s) {x : Int} : Nice (s.assoc x) := by
 unfold St.assoc
 split
 ·exact h.of rfl rfl rfl rfl rfl rfl rfl
 ·exact h
theorem Nice.tokd {s : St} (h : Nice s) (ok : Ok s) {name : Str} (hn : name ∈ tagsW) (attrs : List (Str × Str)) (a c : Addr) : Nice (s.tokd name attrs a c) := (h.put ok (tag hn).w attrs a c).assoc
theorem D7 (s : St) (name : Str) (attrs : List (Str × Str)) (a c : Addr) : (s.tokd name attrs a c).fmt = s.fmt := by
 unfold St.tokd St.assoc
 split <;> rfl
noncomputable def St.fl (s : St) : Bool × Str × Str × Str × Bool × Bool × Str := (s.fs, s.mode, s.original, s.wish, s.skip, s.ack, s.quirks)
theorem DN (s : St) (name : Str) (attrs : List (Str × Str)) (a c : Addr) : (s.tokd name attrs a c).fl = s.fl := by
 unfold St.tokd St.assoc
 split <;> rfl
theorem fl_reGo : ∀ (f : Nat) (s : St) (i : Nat), (s.reGo i f).fl = s.fl
 | 0, _, _ => rfl
 | f + 1, s, i => (fl_reGo f _ _).trans rfl
theorem fl_recon (s : St) : s.recon.fl = s.fl := fl_reGo _ _ _
theorem fl_itemC (s : St) (ns : List Str) : (s.itemC ns).fl = s.fl := by unfold St.itemC; split <;> rfl
theorem Bd {s : St} {b1 b2 b3 : Bool} {m o w q : Str} (h : s.fl = (b1, m, o, w, b2, b3, q)) : s.flags = Bu b1 m o w b2 b3 := by
 unfold St.fl at h
 cases h; rfl
theorem F8 {s t : St} (sm : Same s t) (ok : Ok s) (n : ∀ x ∈ s.opn, s.pr x ∈ OW) : t.isW = s.hasName templateS := by
 unfold St.isW St.hasName
 rw [sm.wds]
 unfold St.wds
 have : ∀ (l : List Int), (∀ x ∈ l, x ∈ s.opn) → (l.map s.wd).contains (zs "html:template") = l.any (fun x => s.ishtml x templateS) := by
  intro l
  induction l with
  | nil => intro _; rfl
  | cons x l ih =>
   intro h
   rw [List.map_cons, List.contains_cons, List.any_cons, ih fun y hy => h y (.tail _ hy)]
   congr 1
   have hx := h x (.head _)
   have f := (fai (n x hx)).te
   have h0 : (x != -1) = true := by have := (ok.opn x hx).1; rw [bne_iff_ne]; omega
   unfold St.ishtml
   rw [h0, Bool.true_and]
   have e1 : (s.sp x == AU && s.na x == templateS) = inP [templateS] (s.pr x) := by
    show _ = (s.sp x == AU && [templateS].contains (s.na x))
    rw [List.contains_cons, List.contains_nil, Bool.or_false]
   rw [e1, f, List.contains_cons, List.contains_nil, Bool.or_false]
   show _ = (s.wd x == zs "html:template")
   rw [Bool.beq_comm]
 exact this _ fun _ h => h
end Mine
namespace Mine
noncomputable def restW : List Str := sL ["h1", "h2", "h3", "h4", "h5", "h6", "p", "div", "address", "article", "aside", "blockquote", "center", "details", "dialog", "dir", "dl", "fieldset", "figure", "footer", "header", "hgroup", "main", "nav", "ol", "section", "search", "ul"]
noncomputable def Ef : Str := zs "xmp"
noncomputable def liS : Str := zs "li"
noncomputable def restB (n : Str) : Bool := !(n == liS) && (!ddL.contains n && (!(n == Ad) && (!(n == buttonS) && (!(n == Au) && (!(n == Ef) && (!(n == hrS) && (!preL.contains n && (!(n == EH) && (!bxL.contains n &&
 (!keptL.contains n && (Dn n == inBody && (EM n == es && Do n == es))))))))))))
theorem rest_all : restW.all restB = true := by decide +kernel
structure Rest (n : Str) : Prop where
 li : (n == liS) = false
 dd : ddL.contains n = false
 fo : (n == Ad) = false
 bt : (n == buttonS) = false
 ta : (n == Au) = false
 xm : (n == Ef) = false
 hr : (n == hrS) = false
 pr : preL.contains n = false
 pl : (n == EH) = false
 bx : bxL.contains n = false
 ke : keptL.contains n = false
 mo : Dn n = inBody
 og : EM n = es
 wi : Do n = es
theorem rest {n : Str} (h : n ∈ restW) : Rest n := by
 have := List.all_eq_true.mp rest_all n h
 unfold restB at this
 simp only [Bool.and_eq_true, Bool.not_eq_true', beq_iff_eq] at this
 obtain ⟨h1, h2, h3, h4, h5, h6, h7, h8, h9, h10, h11, h12, h13, h14⟩ := this
 exact ⟨h1, h2, h3, h4, h5, h6, h7, h8, h9, h10, h11, h12, h13, h14⟩
theorem Nice.eo {s : St} (h : Nice s) {o : List Int} {e : List (Str × Str)} (ho : ∀ x ∈ o, x ∈ s.opn) : Nice ((s.setErr e).setOpn o) :=
 ⟨fun x hx => h.opn x (ho x hx), h.fmt, h.tx.of rfl rfl, h.c0, h.te⟩
theorem Nice.closeN {s : St} (h : Nice s) {nm but : Str} : Nice (s.closeN nm but) := h.oe (mem_rr fun x hx => HO _ _ _ _ _ hx)
theorem Nice.leaveP {s : St} (h : Nice s) : Nice s.leaveP := by
 cases q : s.pIn with
 | true => rw [St.leaveP_t q]; exact h.closeN
 | false => rw [St.leaveP_f q]; exact h
theorem Nice.itemC {s : St} (h : Nice s) {ns : List Str} : Nice (s.itemC ns) := by
 unfold St.itemC
 split
 ·exact h.closeN
 ·exact h
theorem Nice.btnC {s : St} (h : Nice s) : Nice s.btnC := by
 refine h.eo fun x hx => ?_
 split at hx
 ·exact mem_rr (fun x hx => HO _ _ _ _ _ hx) x hx
 ·exact hx
theorem Nice.headed {s : St} (h : Nice s) {name : Str} : Nice (s.headed name) := by
 refine h.eo fun x hx => ?_
 split at hx
 ·exact List.dropLast_subset _ hx
 ·exact hx
theorem Nice.setFs {s : St} (h : Nice s) {x : Bool} : Nice (s.setFs x) := h.of rfl rfl rfl rfl rfl rfl rfl
theorem Same.setFs {s t : St} (h : Same s t) (x : Bool) : Same (s.setFs x) t := ⟨h.opn, h.fmt, h.names, h.spaces, h.attrs, h.parents, h.children, h.contents, h.owners, h.errors, h.form, h.kinds⟩
theorem Same.tail {s s' t : St} (h : Same s t) (e1 : s'.opn = s.opn) (e2 : s'.fmt = s.fmt) (e3 : s'.names = s.names) (e4 : s'.spaces = s.spaces) (e5 : s'.attrs = s.attrs) (e6 : s'.parents = s.parents) (e7 : s'.children = s.children) (e8 : s'.contents = s.contents) (e9 : s'.owners = s.owners) (e10 : s'.errors = s.errors) (e11 : s'.form = s.form) (e12 : s'.kinds = s.kinds) : Same s' t :=
 ⟨h.opn.trans e1.symm, h.fmt.trans e2.symm, h.names.trans e3.symm, h.spaces.trans e4.symm, h.attrs.trans e5.symm, h.parents.trans e6.symm, h.children.trans e7.symm, h.contents.trans e8.symm, h.owners.trans e9.symm, h.errors.trans e10.symm, h.form.trans e11.symm, h.kinds.trans e12.symm⟩
theorem DO {t : St} {name : Str} (h : headW.contains (Gj ++ name) = false) : t.d4' name = t := by
 unfold St.d4' St.isHdD; rw [h]; rfl
structure Res (s t' s' : St) (fl : List V) : Prop where
 sm : Same s' t'
 fl : s'.flags = fl
 n : Nice s'
 f : s'.fmt.length = s.fmt.length
 q : s'.quirks = s.quirks
theorem D8 {u v : St} (sm : Same u v) (ok : Ok u) {name : Str} (hn : name ∈ tagsW) {attrs : List (Str × Str)} (ha : attrs ∈ rowsL) {w : Bool} (hw : u.hasName templateS = w) (h1 : (name == Ad) = false) (h2 : (name == hrS) = false) : Same (u.tokd name attrs 0 0) (v.dFin w name attrs 0 0) := by
 unfold St.dFin St.dForm St.dPop
 rw [h1, h2]
 exact GN sm ok hn ha hw 0 0 0 0
theorem Ea {t : St} {name : Str} {attrs : List (Str × Str)} {q : Int} (h : (name == Ad) = false) : t.dueS name attrs q = (t.dahead name q).dFin t.isW name attrs 0 0 := by
 unfold St.dueS St.formErr; rw [h]; rfl
theorem Bn {t : St} {name : Str} {b1 b2 b3 : Bool} {m o w : Str} (h : (name == Ad) = false) (e1 : (!keptL.contains name) = b1) (e2 : Dn name = m) (e3 : EM name = o) (e4 : Do name = w) (e5 : prelL.contains name = b2) (e6 : (name == hrS) = b3) : t.dueFl name = Bu b1 m o w b2 b3 := by
 unfold St.dueFl St.formErr; rw [h, e1, e2, e3, e4, e5, e6]; rfl
section
variable {s t : St} {attrs : List (Str × Str)} {q : Int} {Q : Str}
theorem GO {name : Str} {ns nsW : List Str} (n : Nice s) (ok : Ok s) (sm : Same s t) (hf : s.fl = (true, inBody, es, es, false, false, Q)) (hn : name ∈ tagsW) (ha : attrs ∈ rowsL) (hP : ∀ p, Fai p → inP ns p = nsW.contains (Bz p)) (h0 : ns.contains es = false) (h1 : ns.contains templateS = false)
  (hb : s.bs name attrs = s.item ns name attrs 0 0) (hd : t.dahead name q = (t.dclose nsW CM).dclose pW buttonS) (hfo : (name == Ad) = false) (hhr : (name == hrS) = false) (hfl : t.dueFl name = Bu false inBody es es false false) : Res s (t.dueS name attrs q) (s.bs name attrs) (t.dueFl name) := by
 have hm : s.mode = inBody := congrArg (fun x => x.2.1) hf
 have n1 := n.setFs (x := false)
 obtain ⟨g1, g2⟩ := itemC_same (s := s.setFs false) (t := t) n1.opn hm (sm.setFs false) hP h0 h1
 have n2 := n1.itemC (ns := ns)
 have f2 : ((s.setFs false).itemC ns).fl = (false, inBody, es, es, false, false, Q) := (fl_itemC _ _).trans (congrArg (fun x => (false, x.2)) hf)
 obtain ⟨g3, g4⟩ := C4 n2.opn (congrArg (fun x => x.2.1) f2) g1
 have n3 := n2.leaveP
 have ok3 : Ok ((s.setFs false).itemC ns).leaveP := ok.setFs.itemC.leaveP
 have f3 : ((s.setFs false).itemC ns).leaveP.fl = (false, inBody, es, es, false, false, Q) := f2
 have f4 : ((s.setFs false).itemC ns).leaveP.fmt = s.fmt := by
  show ((s.setFs false).itemC ns).fmt = _
  unfold St.itemC; split <;> rfl
 have hw : (((s.setFs false).itemC ns).leaveP).hasName templateS = t.isW := (g4.trans g2).trans (F8 sm ok n.opn).symm
 have g5 := D8 g3 ok3 hn ha hw hfo hhr
 rw [hb, hfl, Ea hfo, hd, show s.item ns name attrs 0 0 = (((s.setFs false).itemC ns).leaveP).tokd name attrs 0 0 from rfl]
 generalize hx : ((s.setFs false).itemC ns).leaveP = x at *
 refine ⟨g5, ?_, n3.tokd ok3 hn attrs 0 0, ?_, ?_⟩
 ·exact Bd ((DN ..).trans f3)
 ·rw [D7, f4]
 ·exact (congrArg (fun x => x.2.2.2.2.2.2) ((DN ..).trans f3)).trans (congrArg (fun x => x.2.2.2.2.2.2) hf).symm
theorem D9 {name : Str} (h1 : (name == liS) = false) (h2 : ddL.contains name = false) (h3 : (name == buttonS) = false) (h4 : (name != Au || decide (q < 2)) = true) : t.dpre name q = (t.dclose pW buttonS).d4' name := by
 unfold St.dpre St.d1 St.d2 St.d3
 rw [show (name == zs "li") = false from h1, h2, h3, h4]; rfl
theorem Bx {name : Str} (h : bxL.contains name = false) : t.dahead name q = t.dpre name q := by unfold St.dahead; rw [h]; rfl
theorem dahead_r {name : Str} (h : bxL.contains name = true) : t.dahead name q = (t.dpre name q).recon := by unfold St.dahead; rw [h]; rfl
theorem preTail_n {s : St} (n : Nice s) {name : Str} : Nice (s.preTail name) ∧ (s.preTail name).fmt = s.fmt ∧ (s.preTail name).quirks = s.quirks := by
 unfold St.preTail
 split
 ·exact ⟨n.of rfl rfl rfl rfl rfl rfl rfl, rfl, rfl⟩
 ·split
  ·exact ⟨n.of rfl rfl rfl rfl rfl rfl rfl, rfl, rfl⟩
  ·exact ⟨n, rfl, rfl⟩
theorem preTail_s {s t : St} (h : Same s t) {name : Str} : Same (s.preTail name) t := by
 unfold St.preTail
 split
 ·exact h.tail rfl rfl rfl rfl rfl rfl rfl rfl rfl rfl rfl rfl
 ·split
  ·exact h.tail rfl rfl rfl rfl rfl rfl rfl rfl rfl rfl rfl rfl
  ·exact h
theorem GP (s : St) : s.leaveP.fl = s.fl := rfl
theorem fl_headed (s : St) (name : Str) : (s.headed name).fl = s.fl := rfl
theorem Dq {name : Str} (n : Nice s) (ok : Ok s) (sm : Same s t) (hf : s.fl = (true, inBody, es, es, false, false, Q)) (hn : name ∈ tagsW) (ha : attrs ∈ rowsL)
  (hb : s.bs name attrs = ((s.leaveP.headed name).tokd name attrs 0 0).preTail name) (hd : t.dahead name q = (t.dclose pW buttonS).d4' name) (hfo : (name == Ad) = false) (hhr : (name == hrS) = false)
  (hfl : ∀ x : St, x.fl = (true, inBody, es, es, false, false, Q) → (x.preTail name).flags = t.dueFl name) : Res s (t.dueS name attrs q) (s.bs name attrs) (t.dueFl name) := by
 have hm : s.mode = inBody := congrArg (fun x => x.2.1) hf
 obtain ⟨g3, g4⟩ := C4 n.opn hm sm
 have n3 := n.leaveP
 obtain ⟨g5, g6⟩ := headed_same n3.opn hm g3 hn
 have n4 := n3.headed (name := name)
 have ok4 : Ok (s.leaveP.headed name) := ok.leaveP.headed
 have f4 : (s.leaveP.headed name).fl = (true, inBody, es, es, false, false, Q) := (fl_headed _ _).trans ((GP _).trans hf)
 have e4 : (s.leaveP.headed name).fmt = s.fmt := rfl
 have hw : (s.leaveP.headed name).hasName templateS = t.isW := (g6.trans g4).trans (F8 sm ok n.opn).symm
 rw [hb, Ea hfo, hd]
 generalize s.leaveP.headed name = x at *
 have g7 := D8 g5 ok4 hn ha hw hfo hhr
 have n5 := n4.tokd ok4 hn attrs 0 0
 have f5 := (DN x name attrs 0 0).trans f4
 have e5 := (D7 x name attrs 0 0).trans e4
 generalize x.tokd name attrs 0 0 = y at *
 obtain ⟨n6, e6, q6⟩ := preTail_n n5 (name := name)
 exact ⟨preTail_s g7, hfl y f5, n6, by rw [e6, e5], q6.trans ((congrArg (fun x => x.2.2.2.2.2.2) f5).trans (congrArg (fun x => x.2.2.2.2.2.2) hf).symm)⟩
theorem step_hr (n : Nice s) (ok : Ok s) (sm : Same s t) (hf : s.fl = (true, inBody, es, es, false, false, Q)) (ha : attrs ∈ rowsL) : Res s (t.dueS hrS attrs q) (s.bs hrS attrs) (t.dueFl hrS) := by
 have hm : s.mode = inBody := congrArg (fun x => x.2.1) hf
 have hn : hrS ∈ tagsW := List.contains_iff_mem.mp (by decide +kernel)
 obtain ⟨g3, g4⟩ := C4 n.opn hm sm
 have n3 := n.leaveP
 have ok3 : Ok s.leaveP := ok.leaveP
 have f3 : s.leaveP.fl = (true, inBody, es, es, false, false, Q) := (GP _).trans hf
 have e3 : s.leaveP.fmt = s.fmt := rfl
 have hw : s.leaveP.hasName templateS = t.isW := g4.trans (F8 sm ok n.opn).symm
 have hb : s.bs hrS attrs = ((s.leaveP).voided hrS attrs 0 0).setFs false := by
  unfold St.bs
  rw [if_neg (by decide), if_neg (by decide), if_neg (by decide), if_neg (by decide), if_neg (by decide), if_neg (by decide)]
  exact St.block_t (by decide)
 have hd : t.dahead hrS q = t.dclose pW buttonS := by
  rw [Bx (by decide), D9 (by decide) (by decide) (by decide) (by rfl)]
  exact DO (by decide)
 have hfl : t.dueFl hrS = Bu false inBody es es false true := Bn (by decide) (by decide) (by decide) (by decide) (by decide) (by decide) (by decide)
 rw [hb, Ea (by decide), hd, hfl]
 generalize s.leaveP = x at *
 generalize t.dclose pW buttonS = v at *
 have g7 := GN g3 ok3 hn ha hw 0 0 0 0
 have n5 := n3.tokd ok3 hn attrs 0 0
 have f5 := (DN x hrS attrs 0 0).trans f3
 have e5 := (D7 x hrS attrs 0 0).trans e3
 have ed : v.dFin t.isW hrS attrs 0 0 = ((v.put hrS attrs 0 0).dOwn t.isW hrS attrs v.names.length).setOpn ((v.put hrS attrs 0 0).dOwn t.isW hrS attrs v.names.length).opn.dropLast := by
  unfold St.dFin St.dForm St.dPop
  rw [show (hrS == Ad) = false by decide, show (hrS == hrS) = true by decide]; rfl
 rw [ed]
 refine ⟨⟨?_, g7.fmt, g7.names, g7.spaces, g7.attrs, g7.parents, g7.children, g7.contents, g7.owners, g7.errors, g7.form, g7.kinds⟩, ?_, ?_, congrArg List.length e5, ?_⟩
 ·show ((v.put hrS attrs 0 0).dOwn t.isW hrS attrs v.names.length).opn.dropLast = x.opn
  rw [g7.opn, EG, List.dropLast_concat]
 ·have f6 : (((x.voided hrS attrs 0 0).setFs false).fl) = (false, (x.tokd hrS attrs 0 0).mode, (x.tokd hrS attrs 0 0).original, (x.tokd hrS attrs 0 0).wish, (x.tokd hrS attrs 0 0).skip, true, (x.tokd hrS attrs 0 0).quirks) := rfl
  have : (((x.voided hrS attrs 0 0).setFs false).fl) = (false, inBody, es, es, false, true, Q) := by
   rw [f6]; simp only [St.fl, Prod.mk.injEq] at f5; obtain ⟨_, h2, h3, h4, h5, _, h7⟩ := f5; rw [h2, h3, h4, h5, h7]
  exact Bd this
 ·have n6 : Nice ((x.tokd hrS attrs 0 0).setOpn x.opn) := ⟨fun y hy => n5.opn y (by rw [EG]; exact List.mem_append_left _ hy), n5.fmt, n5.tx.of rfl rfl, n5.c0, n5.te⟩
  exact n6.of rfl rfl rfl rfl rfl rfl rfl
 ·exact (congrArg (fun x => x.2.2.2.2.2.2) f5).trans (congrArg (fun x => x.2.2.2.2.2.2) hf).symm
theorem step_form (n : Nice s) (ok : Ok s) (sm : Same s t) (hf : s.fl = (true, inBody, es, es, false, false, Q)) (ha : attrs ∈ rowsL) : Res s (t.dueS Ad attrs q) (s.bs Ad attrs) (t.dueFl Ad) := by
 have hm : s.mode = inBody := congrArg (fun x => x.2.1) hf
 have hn : Ad ∈ tagsW := List.contains_iff_mem.mp (by decide +kernel)
 have hW := F8 sm ok n.opn
 have hb : s.bs Ad attrs = s.startForm Ad attrs 0 0 := by
  unfold St.bs
  rw [if_neg (by decide), if_neg (by decide), if_pos (by decide)]
 have he : t.formErr Ad = (s.form != -1 && !s.hasName templateS) := by
  unfold St.formErr; rw [hW, sm.form, show (Ad == Ad) = true by decide]; rfl
 rw [hb]
 unfold St.startForm St.dueS St.dueFl
 rw [he]
 cases hc : (s.form != -1 && !s.hasName templateS) with
 | true =>
  rw [if_pos rfl, if_pos rfl, if_pos rfl]
  refine ⟨⟨sm.opn, sm.fmt, sm.names, sm.spaces, sm.attrs, sm.parents, sm.children, sm.contents, sm.owners, ?_, sm.form, sm.kinds⟩, Bd (s := s.err BL) hf, n.of rfl rfl rfl rfl rfl rfl rfl, rfl, rfl⟩
  show t.errors ++ [(BL, inBody)] = s.errors ++ [(BL, s.mode)]
  rw [sm.errors, hm]
 | false =>
  rw [if_neg Bool.false_ne_true, if_neg Bool.false_ne_true, if_neg Bool.false_ne_true]
  obtain ⟨g3, g4⟩ := C4 n.opn hm sm
  have n3 := n.leaveP
  have ok3 : Ok s.leaveP := ok.leaveP
  have f3 : s.leaveP.fl = (true, inBody, es, es, false, false, Q) := (GP _).trans hf
  have e3 : s.leaveP.fmt = s.fmt := rfl
  have m3 : s.leaveP.names = s.names := rfl
  have hw : s.leaveP.hasName templateS = t.isW := g4.trans hW.symm
  have hd : t.dahead Ad q = t.dclose pW buttonS := by
   rw [Bx (by decide), D9 (by decide) (by decide) (by decide) (by rfl)]
   exact DO (by decide)
  have hfl : Bu (!keptL.contains Ad) (Dn Ad) (EM Ad) (Do Ad) (prelL.contains Ad) (Ad == hrS) = Bu true inBody es es false false := by
   rw [show (!keptL.contains Ad) = true by decide, show Dn Ad = inBody by decide, show EM Ad = es by decide, show Do Ad = es by decide, show prelL.contains Ad = false by decide, show (Ad == hrS) = false by decide]
  rw [hd, hfl, ← hW]
  generalize s.leaveP = x at *
  generalize t.dclose pW buttonS = v at *
  have g7 := GN g3 ok3 hn ha hw 0 0 0 0
  have n5 := n3.tokd ok3 hn attrs 0 0
  have f5 := (DN x Ad attrs 0 0).trans f3
  have e5 := (D7 x Ad attrs 0 0).trans e3
  have ed : v.dFin t.isW Ad attrs 0 0 = if t.isW then ((v.put Ad attrs 0 0).dOwn t.isW Ad attrs v.names.length) else ((v.put Ad attrs 0 0).dOwn t.isW Ad attrs v.names.length).setForm v.names.length := by
   unfold St.dFin St.dForm St.dPop
   rw [show (Ad == Ad) = true by decide, show (Ad == hrS) = false by decide]
   cases t.isW <;> rfl
  rw [ed]
  have q5 := (congrArg (fun x => x.2.2.2.2.2.2) f5).trans (congrArg (fun x => x.2.2.2.2.2.2) hf).symm
  split
  ·exact ⟨g7, Bd f5, n5, congrArg List.length e5, q5⟩
  ·refine ⟨⟨g7.opn, g7.fmt, g7.names, g7.spaces, g7.attrs, g7.parents, g7.children, g7.contents, g7.owners, g7.errors, ?_, g7.kinds⟩, Bd (s := (x.tokd Ad attrs 0 0).setForm s.names.length) f5, n5.of rfl rfl rfl rfl rfl rfl rfl, congrArg List.length e5, q5⟩
   show (v.names.length : Int) = (s.names.length : Int)
   rw [g3.names, m3]
end
end Mine
namespace Mine
section
variable {s t : St} {attrs : List (Str × Str)} {q : Int} {Q : Str}
theorem step_button (n : Nice s) (ok : Ok s) (sm : Same s t) (hf : s.fl = (true, inBody, es, es, false, false, Q)) (ha : attrs ∈ rowsL) : Res s (t.dueS buttonS attrs q) (s.bs buttonS attrs) (t.dueFl buttonS) := by
 have hm : s.mode = inBody := congrArg (fun x => x.2.1) hf
 have hn : buttonS ∈ tagsW := List.contains_iff_mem.mp (by decide +kernel)
 have hb : s.bs buttonS attrs = (s.btnC.recon.tokd buttonS attrs 0 0).setFs false := by
  unfold St.bs
  rw [if_neg (by decide), if_neg (by decide), if_neg (by decide), if_pos (by decide)]; rfl
 have hd : t.dahead buttonS q = (if decide (t.btnP ≥ 0) then (t.dErr BL).setOpn (t.opn.take t.btnP.toNat) else t).recon := by
  rw [dahead_r (by decide)]
  unfold St.dpre
  rw [DO (by decide)]
  unfold St.d1 St.d2 St.d3
  rw [show (buttonS == zs "li") = false by decide, show ddL.contains buttonS = false by decide, show (buttonS == buttonS) = true by decide]; rfl
 obtain ⟨g3, g4⟩ := btnC_same n.opn hm sm
 have n3 := n.btnC
 have ok3 : Ok s.btnC := ok.btnC
 have hw : s.btnC.recon.hasName templateS = t.isW := (Iq n3 ok3).trans (g4.trans (F8 sm ok n.opn).symm)
 have f3 : s.btnC.recon.fl = (true, inBody, es, es, false, false, Q) := (fl_recon _).trans hf
 have e3 : s.btnC.recon.fmt.length = s.fmt.length := fmt_recon _
 have g5 := g3.recon
 have n4 := n3.recon ok3
 have ok4 := ok3.recon
 have hfl : t.dueFl buttonS = Bu false inBody es es false false := Bn (by decide) (by decide) (by decide) (by decide) (by decide) (by decide) (by decide)
 rw [hb, Ea (by decide), hd, hfl]
 generalize s.btnC.recon = x at *
 have g7 := D8 g5 ok4 hn ha hw (by decide) (by decide)
 have n5 := n4.tokd ok4 hn attrs 0 0
 have f5 := (DN x buttonS attrs 0 0).trans f3
 have e5 := D7 x buttonS attrs 0 0
 generalize x.tokd buttonS attrs 0 0 = y at *
 have f6 : (y.setFs false).fl = (false, inBody, es, es, false, false, Q) := congrArg (fun x => (false, x.2)) f5
 exact ⟨g7.setFs false, Bd f6, n5.setFs, (congrArg List.length e5).trans e3, (congrArg (fun x => x.2.2.2.2.2.2) f5).trans (congrArg (fun x => x.2.2.2.2.2.2) hf).symm⟩
theorem step_table (n : Nice s) (ok : Ok s) (sm : Same s t) (hf : s.fl = (true, inBody, es, es, false, false, Q)) (ha : attrs ∈ rowsL) (hq : (Q != DM) = decide (q < 2)) : Res s (t.dueS Au attrs q) (s.bs Au attrs) (t.dueFl Au) := by
 have hm : s.mode = inBody := congrArg (fun x => x.2.1) hf
 have hQ : s.quirks = Q := congrArg (fun x => x.2.2.2.2.2.2) hf
 have hn : Au ∈ tagsW := List.contains_iff_mem.mp (by decide +kernel)
 have hb : s.bs Au attrs = ((s.tableC.tokd Au attrs 0 0).setFs false).setMode (zs "in table") := by
  unfold St.bs
  rw [if_neg (by decide), if_neg (by decide), if_neg (by decide), if_neg (by decide), if_pos (by decide)]; rfl
 have hd : t.dahead Au q = if decide (q < 2) then t.dclose pW buttonS else t := by
  rw [Bx (by decide)]
  unfold St.dpre
  rw [DO (by decide)]
  unfold St.d1 St.d2 St.d3
  rw [show (Au == zs "li") = false by decide, show ddL.contains Au = false by decide, show (Au == buttonS) = false by decide, show (Au != Au) = false by decide]; rfl
 have key : Same s.tableC (t.dahead Au q) ∧ s.tableC.hasName templateS = s.hasName templateS ∧ Nice s.tableC ∧ s.tableC.fl = s.fl ∧ s.tableC.fmt = s.fmt := by
  rw [hd]
  unfold St.tableC
  rw [hQ, hq]
  split
  ·obtain ⟨g3, g4⟩ := C4 n.opn hm sm
   exact ⟨g3, g4, n.leaveP, rfl, rfl⟩
  ·exact ⟨sm, rfl, n, rfl, rfl⟩
 obtain ⟨g5, g4, n4, f3, e3⟩ := key
 have ok4 : Ok s.tableC := ok.tableC
 have hw : s.tableC.hasName templateS = t.isW := g4.trans (F8 sm ok n.opn).symm
 have f4 := f3.trans hf
 have hfl : t.dueFl Au = Bu false (zs "in table") es es false false := Bn (by decide) (by decide) (by decide) (by decide) (by decide) (by decide) (by decide)
 rw [hb, Ea (by decide), hfl]
 generalize s.tableC = x at *
 have g7 := D8 g5 ok4 hn ha hw (by decide) (by decide)
 have n5 := n4.tokd ok4 hn attrs 0 0
 have f5 := (DN x Au attrs 0 0).trans f4
 have e5 := (D7 x Au attrs 0 0).trans e3
 generalize x.tokd Au attrs 0 0 = y at *
 have f6 : ((y.setFs false).setMode (zs "in table")).fl = (false, zs "in table", es, es, false, false, Q) := congrArg (fun x => (false, zs "in table", x.2.2)) f5
 exact ⟨g7.tail rfl rfl rfl rfl rfl rfl rfl rfl rfl rfl rfl rfl, Bd f6, n5.of rfl rfl rfl rfl rfl rfl rfl, congrArg List.length e5, (congrArg (fun x => x.2.2.2.2.2.2) f5).trans hQ.symm⟩
theorem step_xmp (n : Nice s) (ok : Ok s) (sm : Same s t) (hf : s.fl = (true, inBody, es, es, false, false, Q)) (ha : attrs ∈ rowsL) : Res s (t.dueS Ef attrs q) (s.bs Ef attrs) (t.dueFl Ef) := by
 have hm : s.mode = inBody := congrArg (fun x => x.2.1) hf
 have hn : Ef ∈ tagsW := List.contains_iff_mem.mp (by decide +kernel)
 have hb : s.bs Ef attrs = ((s.leaveP.recon.setFs false).tokd Ef attrs 0 0).rawTail := by
  unfold St.bs
  rw [if_neg (by decide), if_neg (by decide), if_neg (by decide), if_neg (by decide), if_neg (by decide), if_pos (by decide)]; rfl
 have hd : t.dahead Ef q = (t.dclose pW buttonS).recon := by
  rw [dahead_r (by decide), D9 (by decide) (by decide) (by decide) (by rfl), DO (by decide)]
 obtain ⟨g3, g4⟩ := C4 n.opn hm sm
 have n3 := n.leaveP
 have ok3 : Ok s.leaveP := ok.leaveP
 have hw : (s.leaveP.recon.setFs false).hasName templateS = t.isW := (Iq n3 ok3).trans (g4.trans (F8 sm ok n.opn).symm)
 have f3 : (s.leaveP.recon.setFs false).fl = (false, inBody, es, es, false, false, Q) := congrArg (fun x => (false, x.2)) ((fl_recon s.leaveP).trans hf)
 have e3 : (s.leaveP.recon.setFs false).fmt.length = s.fmt.length := fmt_recon s.leaveP
 have g5 := g3.recon.setFs false
 have n4 := (n3.recon ok3).setFs (x := false)
 have ok4 := ok3.recon.setFs (x := false)
 have hfl : t.dueFl Ef = Bu false (zs "text") inBody (zs "RAWTEXT") false false := Bn (by decide) (by decide) (by decide) (by decide) (by decide) (by decide) (by decide)
 rw [hb, Ea (by decide), hd, hfl]
 generalize s.leaveP.recon.setFs false = x at *
 have g7 := D8 g5 ok4 hn ha hw (by decide) (by decide)
 have n5 := n4.tokd ok4 hn attrs 0 0
 have f5 := (DN x Ef attrs 0 0).trans f3
 have e5 := D7 x Ef attrs 0 0
 generalize x.tokd Ef attrs 0 0 = y at *
 have f6 : y.rawTail.fl = (false, zs "text", inBody, zs "RAWTEXT", false, false, Q) := congrArg (fun x => (x.1, zs "text", x.2.1, zs "RAWTEXT", x.2.2.2.2.1, x.2.2.2.2.2.1, x.2.2.2.2.2.2)) f5
 exact ⟨g7.tail rfl rfl rfl rfl rfl rfl rfl rfl rfl rfl rfl rfl, Bd f6, n5.of rfl rfl rfl rfl rfl rfl rfl, (congrArg List.length e5).trans e3, (congrArg (fun x => x.2.2.2.2.2.2) f5).trans (congrArg (fun x => x.2.2.2.2.2.2) hf).symm⟩
theorem tags_split {n : Str} (h : n ∈ tagsW) : n = liS ∨ n = zs "dd" ∨ n = zs "dt" ∨ n = Ad ∨ n = buttonS ∨ n = Au ∨ n = Ef ∨ n = hrS ∨ n = zs "pre" ∨ n = zs "listing" ∨ n = EH ∨ n ∈ restW := by
 have h : n ∈ [liS, zs "dd", zs "dt", Ad, buttonS, Au, Ef, hrS, zs "pre", zs "listing", EH] ++ restW := h
 simpa [or_assoc] using h
theorem liL_p (p : Str × Str) (f : Fai p) : inP (sL ["li"]) p = liW.contains (Bz p) := f.li
theorem ddL_p (p : Str × Str) (f : Fai p) : inP (sL ["dd", "dt"]) p = ddW.contains (Bz p) := f.dd
theorem step_dd {name : Str} (hc : name = zs "dd" ∨ name = zs "dt") (n : Nice s) (ok : Ok s) (sm : Same s t) (hf : s.fl = (true, inBody, es, es, false, false, Q)) (hn : name ∈ tagsW) (ha : attrs ∈ rowsL) : Res s (t.dueS name attrs q) (s.bs name attrs) (t.dueFl name) := by
 rcases hc with rfl | rfl
 ·refine GO (ns := sL ["dd", "dt"]) (nsW := ddW) n ok sm hf hn ha ddL_p (by decide) (by decide) ?_ ?_ (by decide) (by decide) (Bn (by decide) (by decide) (by decide) (by decide) (by decide) (by decide) (by decide))
  ·unfold St.bs; rw [if_neg (by decide), if_pos (by decide)]
  ·rw [Bx (by decide)]; unfold St.dpre; rw [DO (by decide)]; rfl
 ·refine GO (ns := sL ["dd", "dt"]) (nsW := ddW) n ok sm hf hn ha ddL_p (by decide) (by decide) ?_ ?_ (by decide) (by decide) (Bn (by decide) (by decide) (by decide) (by decide) (by decide) (by decide) (by decide))
  ·unfold St.bs; rw [if_neg (by decide), if_pos (by decide)]
  ·rw [Bx (by decide)]; unfold St.dpre; rw [DO (by decide)]; rfl
theorem Ft {name : Str} (h1 : (name == liS) = false) (h2 : ddL.contains name = false) (h3 : (name == Ad) = false) (h4 : (name == buttonS) = false) (h5 : (name == Au) = false) (h6 : (name == Ef) = false) (h7 : (name == hrS) = false) : s.bs name attrs = ((s.leaveP.headed name).tokd name attrs 0 0).preTail name := by
 unfold St.bs
 rw [show (name == zs "li") = false from h1, show (sL ["dd", "dt"]).contains name = false from h2, show (name == zs "form") = false from h3, h4, show (name == zs "table") = false from h5, show (name == zs "xmp") = false from h6]
 exact St.block_f h7
theorem law_step {name : Str} (n : Nice s) (ok : Ok s) (sm : Same s t) (hf : s.fl = (true, inBody, es, es, false, false, Q)) (hn : name ∈ tagsW) (ha : attrs ∈ rowsL) (hq : (Q != DM) = decide (q < 2)) : Res s (t.dueS name attrs q) (s.bs name attrs) (t.dueFl name) := by
 rcases tags_split hn with rfl | rfl | rfl | rfl | rfl | rfl | rfl | rfl | rfl | rfl | rfl | hr
 ·refine GO (ns := sL ["li"]) (nsW := liW) n ok sm hf hn ha liL_p (by decide) (by decide) ?_ ?_ (by decide) (by decide) (Bn (by decide) (by decide) (by decide) (by decide) (by decide) (by decide) (by decide))
  ·unfold St.bs; rw [if_pos (by decide)]
  ·rw [Bx (by decide)]; unfold St.dpre; rw [DO (by decide)]; rfl
 ·exact step_dd (.inl rfl) n ok sm hf hn ha
 ·exact step_dd (.inr rfl) n ok sm hf hn ha
 ·exact step_form n ok sm hf ha
 ·exact step_button n ok sm hf ha
 ·exact step_table n ok sm hf ha hq
 ·exact step_xmp n ok sm hf ha
 ·exact step_hr n ok sm hf ha
 ·refine Dq n ok sm hf hn ha (Ft (by decide) (by decide) (by decide) (by decide) (by decide) (by decide) (by decide)) ((Bx (by decide)).trans (D9 (by decide) (by decide) (by decide) (by rfl))) (by decide) (by decide) fun x hx => ?_
  rw [Bn (b1 := false) (b2 := true) (b3 := false) (m := inBody) (o := es) (w := es) (by decide) (by decide) (by decide) (by decide) (by decide) (by decide) (by decide)]
  unfold St.preTail
  rw [if_pos (by decide)]
  exact Bd (s := (x.setSkip true).setFs false) (congrArg (fun y => (false, y.2.1, y.2.2.1, y.2.2.2.1, true, y.2.2.2.2.2)) hx)
 ·refine Dq n ok sm hf hn ha (Ft (by decide) (by decide) (by decide) (by decide) (by decide) (by decide) (by decide)) ((Bx (by decide)).trans (D9 (by decide) (by decide) (by decide) (by rfl))) (by decide) (by decide) fun x hx => ?_
  rw [Bn (b1 := false) (b2 := true) (b3 := false) (m := inBody) (o := es) (w := es) (by decide) (by decide) (by decide) (by decide) (by decide) (by decide) (by decide)]
  unfold St.preTail
  rw [if_pos (by decide)]
  exact Bd (s := (x.setSkip true).setFs false) (congrArg (fun y => (false, y.2.1, y.2.2.1, y.2.2.2.1, true, y.2.2.2.2.2)) hx)
 ·refine Dq n ok sm hf hn ha (Ft (by decide) (by decide) (by decide) (by decide) (by decide) (by decide) (by decide)) ((Bx (by decide)).trans (D9 (by decide) (by decide) (by decide) (by rfl))) (by decide) (by decide) fun x hx => ?_
  rw [Bn (b1 := true) (b2 := false) (b3 := false) (m := inBody) (o := es) (w := zs "PLAINTEXT") (by decide) (by decide) (by decide) (by decide) (by decide) (by decide) (by decide)]
  unfold St.preTail
  rw [if_neg (by decide), if_pos (by decide)]
  exact Bd (s := x.setWish (zs "PLAINTEXT")) (congrArg (fun y => (y.1, y.2.1, y.2.2.1, zs "PLAINTEXT", y.2.2.2.2)) hx)
 ·have r := rest hr
  refine Dq n ok sm hf hn ha (Ft r.li r.dd r.fo r.bt r.ta r.xm r.hr) ((Bx r.bx).trans (D9 r.li r.dd r.bt (by rw [show (name != Au) = true by rw [bne, r.ta]; rfl]; rfl))) r.fo r.hr fun x hx => ?_
  rw [Bn (b1 := true) (b2 := false) (b3 := false) (m := inBody) (o := es) (w := es) r.fo (by rw [r.ke]; rfl) r.mo r.og r.wi r.pr r.hr]
  unfold St.preTail
  rw [r.pr, r.pl]
  exact Bd hx
end
end Mine
namespace Mine
noncomputable def scnV (a b : String) (f u : Int) : V := .tup [.str (Str.ofString a), .str (Str.ofString b), .int f, .int u]
noncomputable def scenes : List V := [scnV "html body *b h1 p -i span" "h2 button button" 0 0, scnV "html body ul li div *a address p" "li p li" 1 0, scnV "html body p dl dd span svg:p svg:dt math:mrow" "dt form hr" 0 2, scnV "html body p template h5" "plaintext form dd" 1 1, scnV "html body form p svg:g" "form table button" 2 0, scnV "html body p div p | -b" "xmp table pre" 0 2, scnV "li svg:g rt" "li ul li" 0 0, scnV "*b -i span" "li h3 xmp" 1 1]
section
variable {g : G} {k : Nat} {τ σ R : Store} {Q : V → Store → Prop} {b : Nat} {L₀ : Addr} {m₀ : Loc} {env : Env}
theorem EO {a b : Str} {f u : Int} {n0 n1 n2 n3 n4 p0 p1 p2 p3 p4} (q : Q (.tup [.str a, .str b, .int f, .int u]) σ) : WE g k σ env (.Tuple [.Constant (.str a) n1 p1, .Constant (.str b) n2 p2, .Constant (.int f) n3 p3, .Constant (.int u) n4 p4] n0 p0) Q := by
 refine Ah ?_
 refine A5 ?_
 refine A9 ?_
 refine A5 ?_
 refine A9 ?_
 refine A5 ?_
 refine AL ?_
 refine A5 ?_
 refine AL ?_
 refine A7 ?_
 exact ⟨sz_lit rfl, q⟩
theorem HF (q : Q (.tup scenes) σ) : Fn g (k + 1) 654 [] σ Q := by
 refine AN (R := []) [] (lk_law_scenes _) (cd_law_scenes _) (bnd0 (by kernel_rfl)) (fun L => ?_) (by decide +kernel) (by kernel_rfl) (by kernel_rfl) (by kernel_rfl)
 conv in stB _ => whnf
 conv in stS _ => whnf
 refine A6 ?_
 refine AG ?_
 refine Ah ?_
 refine A5 ?_
 refine EO ?_
 refine A5 ?_
 refine EO ?_
 refine A5 ?_
 refine EO ?_
 refine A5 ?_
 refine EO ?_
 refine A5 ?_
 refine EO ?_
 refine A5 ?_
 refine EO ?_
 refine A5 ?_
 refine EO ?_
 refine A5 ?_
 refine EO ?_
 refine A7 ?_
 refine ⟨sz_lit rfl, ?_⟩
 exact AR (Ak [] ..) q
end
end Mine
namespace Mine
noncomputable def pool1 : List Str := sL ["p", "li", "dd", "dt", "ul", "div", "address", "span", "button", "h1", "h6", "form", "template", "td", "table", "svg:desc", "svg:g", "svg:li", "math:mi", "math:mrow"]
noncomputable def pool2 : List Str := sL ["*b", "-i", "|", "rt", "option", "object", "math:annotation-xml", "svg:p", "*a", "-b", "body", "html", "ol", "dialog"]
noncomputable def poolW : List Str := sL ["p", "li", "dd", "dt", "ul", "div", "address", "span", "button", "h1", "h6", "form", "template", "td", "table", "svg:desc", "svg:g", "svg:li", "math:mi", "math:mrow", "*b", "-i", "|", "rt", "option", "object", "math:annotation-xml", "svg:p", "*a", "-b", "body", "html", "ol", "dialog"]
structure Splits (text : Str) (ws : List Str) : Prop where
 h1 : (spaceWords text (text.length + 1) == [(0, text.length)]) = false
 hw : PySem.wordsOf text = ws
 hx : Nat.ble text.length 1000 = true
 hn : Nat.ble ws.length 1000 = true
section
variable {g : G} {k : Nat} {τ σ R : Store} {Q : V → Store → Prop} {b : Nat} {L₀ : Addr} {m₀ : Loc} {env : Env}
theorem EP {α : Type} (ds : List α) (p : Nat) : Ge ds (some p) none = ds.drop p := by
 by_cases h : p ≤ ds.length
 ·exact F4 ds p h
 ·rw [Cq ds _ _ ds.length ds.length]
  ·rw [Nat.sub_self, List.take_zero, List.drop_eq_nil_of_le (by omega)]
  ·simp [sliceBounds]; omega
  ·simp [sliceBounds]
theorem W.own5 {α β : Type} {rel : Heap → α → β → Prop} {tr : Sem α} {Q : β → Store → Prop} {L : Addr} {m : Loc} {p x1 x2 x3 x4 x5 : Addr × Cell} {X : Store} (h : W g k rel (Fm R L m (p :: x1 :: x2 :: x3 :: x4 :: x5 :: X)) tr Q) : W g k rel (Fm R L m (x1 :: x2 :: x3 :: x4 :: x5 :: p :: X)) tr Q :=
 W.pre h fun _ S => S.perm (List.Perm.append_left R (List.Perm.cons _ (List.perm_middle (l₁ := [x1, x2, x3, x4, x5]))))
theorem W.own4 {α β : Type} {rel : Heap → α → β → Prop} {tr : Sem α} {Q : β → Store → Prop} {L : Addr} {m : Loc} {p x1 x2 x3 x4 : Addr × Cell} {X : Store} (h : W g k rel (Fm R L m (p :: x1 :: x2 :: x3 :: x4 :: X)) tr Q) : W g k rel (Fm R L m (x1 :: x2 :: x3 :: x4 :: p :: X)) tr Q :=
 W.pre h fun _ S => S.perm (List.Perm.append_left R (List.Perm.cons _ (List.perm_middle (l₁ := [x1, x2, x3, x4]))))
theorem W.own1 {α β : Type} {rel : Heap → α → β → Prop} {tr : Sem α} {Q : β → Store → Prop} {L : Addr} {m : Loc} {p x1 : Addr × Cell} {X : Store} (h : W g k rel (Fm R L m (p :: x1 :: X)) tr Q) : W g k rel (Fm R L m (x1 :: p :: X)) tr Q :=
 W.pre h fun _ S => S.perm (List.Perm.append_left R (List.Perm.cons _ (List.perm_middle (l₁ := [x1]))))
theorem mem_own {L : Addr} {m : Loc} {p x y : Addr × Cell} {X : Store} (h : p ∈ X) : p ∈ Fm R L m (x :: y :: X) := List.mem_append_right _ (.tail _ (.tail _ (.tail _ h)))
theorem Ir {L : Addr} {m : Loc} {p x1 x2 x3 x4 : Addr × Cell} {X : Store} (h : p ∈ X) : p ∈ Fm R L m (x1 :: x2 :: x3 :: x4 :: X) := List.mem_append_right _ (.tail _ (.tail _ (.tail _ (.tail _ (.tail _ h)))))
theorem Iu {L : Addr} {m : Loc} {p x1 x2 x3 : Addr × Cell} {X : Store} (h : p ∈ X) : p ∈ Fm R L m (x1 :: x2 :: x3 :: X) := List.mem_append_right _ (.tail _ (.tail _ (.tail _ (.tail _ h))))
theorem ret_mem {d : V} {p : Addr × Cell} {L : Addr} {m : Loc} {X : Store} (h : p ∈ X) (q : Q d (Fm R L₀ m₀ (p :: τ))) : BC Q (.ret d) (Fm (Fm R L₀ m₀ τ) L m X) := by
 refine ⟨Fm R L₀ m₀ τ ++ [p], _, List.Sublist.append_left (List.Sublist.cons _ (List.singleton_sublist.mpr h)) _, ?_, q⟩
 show ((R ++ (L₀, Cell.ns m₀) :: τ) ++ [p]).Perm (R ++ (L₀, Cell.ns m₀) :: p :: τ)
 rw [List.append_assoc, List.cons_append]
 exact List.Perm.append_left R (List.Perm.cons _ (List.perm_append_singleton p τ))
inductive WoI (g : G) (pa sa : Addr) (kk : Int) (ws : List Str) (R0 : Store) (it : Addr) (I : It g it) (i : Nat) (R' : Store) (m : Loc) (τ' : Store) : Prop
 | mk (t wc : Addr) (ws' : List Str) (X : Store) (h0 : I = itT g it t [.int 1, .int 2, .int 3]) (h1 : i ≤ 3) (h2 : R' = R0) (h3 : m = [(zs "words", V.ref wc), (zs "pool", V.ref pa), (zs "k", V.int kk), (zs "script", V.ref sa)]) (h4 : τ' = X) (h5 : (wc, Cell.list (ws'.map V.str)) ∈ X) (h6 : (pa, Cell.list (poolW.map V.str)) ∈ X) (h7 : ws'.length ≤ ws.length + i) (h8 : ∀ w ∈ ws', w ∈ ws ∨ w ∈ poolW) : WoI g pa sa kk ws R0 it I i R' m τ'
theorem Iv {sc : List Int} {sa : Addr} {kk : Int} (hk0 : 0 ≤ kk) (hk7 : kk ≤ 7) {text : Str} {ws : List Str} (hs : Splits text ws) (hl : ws.length ≤ 100) (hm : Scr g sa sc) (hz : sc.length ≤ 1000)
  (q : ∀ (a : Addr) (ws' : List Str), ws'.length ≤ ws.length + 3 → (∀ w ∈ ws', w ∈ ws ∨ w ∈ poolW) → Q (.ref a) (Fm R L₀ m₀ ((a, .list (ws'.map V.str)) :: τ))) : Fn g (k + 2) 668 [.ref sa, .int kk, .str text] (Fm R L₀ m₀ τ) Q := by
 refine Ch ?_
 refine AN [(zs "text", .str text), (zs "k", .int kk), (zs "script", .ref sa)] (lk_law_words _) (cd_law_words _) (bnd3 (fun _ _ _ => by kernel_rfl) (by kernel_rfl)) (fun L => ?_) (by decide +kernel) (by kernel_rfl) (by kernel_rfl) (by kernel_rfl)
 conv in stB _ => whnf
 conv in stS _ => whnf
 refine A6 ?_
 refine AD ?_
 refine A9 ?_
 refine AF ?_
 refine A6 ?_
 refine AD ?_
 refine A9 ?_
 refine AF ?_
 refine A6 ?_
 refine AD ?_
 refine AP ?_
 refine AH ?_
 refine A4 rfl ?_
 refine By TyOf.str F.plainAttrs_str F.slot_str_split F.type_str_split ?_
 refine Bg (ws := pool1) (by kernel_rfl) (by kernel_rfl) (by kernel_rfl) (by kernel_rfl) fun a1 => ?_
 refine AH ?_
 refine A4 rfl ?_
 refine By TyOf.str F.plainAttrs_str F.slot_str_split F.type_str_split ?_
 refine Bg (ws := pool2) (by kernel_rfl) (by kernel_rfl) (by kernel_rfl) (by kernel_rfl) fun a2 => ?_
 refine CU (by walk_at "mm") (by walk_at "mm") (by walk_at "sz") fun c => ?_
 refine AF ?_
 refine A6 ?_
 refine AD ?_
 refine AH ?_
 refine A4 rfl ?_
 refine By TyOf.str F.plainAttrs_str F.slot_str_split F.type_str_split ?_
 rw [show pool1.map V.str ++ pool2.map V.str = poolW.map V.str by kernel_rfl]
 rename Addr => pa
 refine Bg hs.h1 hs.hw hs.hx hs.hn fun c => ?_
 refine AF ?_
 refine A6 ?_
 refine Dl (L := L) (WoI g pa sa kk ws (Fm R L₀ m₀ τ)) ?_ ?_ ?_ ?_
 ·refine Ah ?_
  refine A5 ?_
  refine AL ?_
  refine A5 ?_
  refine AL ?_
  refine A5 ?_
  refine AL ?_
  refine A7 ?_
  refine ⟨sz_lit rfl, ?_⟩
  exact ⟨_, [(zs "words", V.ref c), (zs "pool", V.ref pa), (zs "k", V.int kk), (zs "script", V.ref sa)], _, _, rfl, .cons (by kernel_rfl) (.cons (by kernel_rfl) (.cons (by kernel_rfl) (.cons (by kernel_rfl) .nil))), IterO_tup fun it t => ⟨t, c, ws, _, rfl, Nat.zero_le _, rfl, rfl, rfl, .head _, .tail _ (.head _), Nat.le_refl _, fun w h => .inl h⟩⟩
 ·rintro it I i R' m τ' hlt ⟨t, wc, ws', X, rfl, hi, rfl, rfl, rfl, hw, hp, hlen, hall⟩
  have hlt' : i < 3 := hlt
  have ei : (itT g it t [.int 1, .int 2, .int 3]).item i = .int ((i : Int) + 1) := by
   obtain rfl | rfl | rfl : i = 0 ∨ i = 1 ∨ i = 2 := by omega
   all_goals rfl
  rw [ei]
  refine AT ?_
  refine AF ?_
  refine A6 ?_
  refine AD ?_
  refine AJ (De _) (Dk _) ?_
  refine A5 ?_
  refine A4 rfl ?_
  refine A5 ?_
  refine AP ?_
  refine AP ?_
  refine AL ?_
  refine A4 rfl ?_
  refine O_mul (IntMulOk.of_left (by decide)) ?_
  refine A4 rfl ?_
  refine Cw ?_
  refine A7 ?_
  refine D5 (by omega) (by omega) hm hz ?_
  generalize digit sc (7 * kk + ((i : Int) + 1)).toNat = d
  have hwz : ws'.length ≤ 103 := by omega
  have hwz' : ws'.length ≤ sizeLine := by rw [sizeLine_eq]; omega
  refine AF ?_
  refine A6 ?_
  refine AD ?_
  refine AP ?_
  refine A4 rfl ?_
  refine AL ?_
  refine O_div (by decide) (PyProof.noPylong_small (by decide)) ?_
  refine AF ?_
  refine A6 ?_
  refine AD ?_
  refine AP ?_
  refine A4 rfl ?_
  refine AP ?_
  refine Ar (BN _) rfl (by decide) ?_
  refine A5 ?_
  refine A4 rfl ?_
  refine A7 ?_
  refine BT (ds := ws'.map V.str) (List.mem_append_right _ (.tail _ (.tail _ hw))) (by rw [List.length_map]; exact hwz') ?_
  rw [List.length_map]
  refine AL ?_
  refine Cw ?_
  refine FC (by omega) ?_
  have hp0 : 0 ≤ (d.fdiv 4).fmod ((ws'.length : Int) + 1) := Int.fmod_nonneg_of_pos _ (by omega)
  have hp1 : (d.fdiv 4).fmod ((ws'.length : Int) + 1) < (ws'.length : Int) + 1 := Int.fmod_lt_of_pos _ (by omega)
  generalize (d.fdiv 4).fmod ((ws'.length : Int) + 1) = p at hp0 hp1 ⊢
  obtain ⟨n, rfl⟩ : ∃ n : Nat, p = n := ⟨p.toNat, by omega⟩
  refine AF ?_
  refine A6 ?_
  refine AD ?_
  refine Af ?_
  refine A5 ?_
  refine AO ?_
  refine A4 rfl ?_
  refine AP ?_
  refine AP ?_
  refine A4 rfl ?_
  refine AP ?_
  refine Ar (BN _) rfl (by decide) ?_
  refine A5 ?_
  refine A4 rfl ?_
  refine A7 ?_
  refine BT (ds := ws'.map V.str) (List.mem_append_right _ (.tail _ (.tail _ hw))) (by rw [List.length_map]; exact hwz') ?_
  rw [List.length_map]
  refine AL ?_
  refine Cw ?_
  refine O_div (by omega) (PyProof.noPylong_small (by omega)) ?_
  refine Ar (BN _) rfl (by decide) ?_
  refine A5 ?_
  refine A4 rfl ?_
  refine A7 ?_
  refine BT (ds := poolW.map V.str) (List.mem_append_right _ (.tail _ (.tail _ hp))) (Nat.le_trans (Nat.le_of_ble_eq_true (by kernel_rfl : Nat.ble _ 1000 = true)) (by rw [sizeLine_eq]; omega)) ?_
  rw [List.length_map, show poolW.length = 34 by kernel_rfl]
  refine FC (by decide) ?_
  have hx0 : 0 ≤ ((d.fdiv 4).fdiv ((ws'.length : Int) + 1)).fmod ((34 : Nat) : Int) := Int.fmod_nonneg_of_pos _ (by decide)
  have hx1 : ((d.fdiv 4).fdiv ((ws'.length : Int) + 1)).fmod ((34 : Nat) : Int) < ((34 : Nat) : Int) := Int.fmod_lt_of_pos _ (by decide)
  generalize ((d.fdiv 4).fdiv ((ws'.length : Int) + 1)).fmod ((34 : Nat) : Int) = x at hx0 hx1 ⊢
  have hxl : x.toNat < poolW.length := by rw [show poolW.length = 34 by kernel_rfl]; omega
  refine Ay (ds := poolW.map V.str) (d := .str (poolW[x.toNat])) (List.mem_append_right _ (.tail _ (.tail _ hp))) hx0 (by omega) (by rw [List.getElem?_map, List.getElem?_eq_getElem hxl]; rfl) ?_
  have hpw : poolW[x.toNat] ∈ poolW := List.getElem_mem hxl
  generalize poolW[x.toNat] = pw at hpw ⊢
  have hlt1 : n ≤ ws'.length := by omega
  refine A7 ?_
  refine ⟨_, _, _, _, rfl, sz_lit rfl, fun c => ?_⟩
  refine AF ?_
  refine A6 ?_
  refine AY ?_
  refine AB ?_
  refine AP ?_
  refine A4 rfl ?_
  refine AL ?_
  rename Addr => c1
  refine FC (by decide) ?_
  refine AL ?_
  refine CX ?_
  refine ⟨_, rfl, ?_⟩
  refine AQ (fun h1 => ?_) (fun h1 => ?_)
  ·refine A6 ?_
   refine AD ?_
   refine AP ?_
   refine AP ?_
   refine BX ?_
   refine A4 rfl ?_
   refine Br ?_
   refine Bs ?_
   refine A4 rfl ?_
   refine Bc (ds := ws'.map V.str) (lo := none) (hi := some (n : Int)) ?hm (by rw [List.length_map]; exact hwz') .none (.int _) fun c2 => ?_
   case hm => exact mem_own hw
   rw [D3 _ _ (by rw [List.length_map]; exact hlt1), ← List.map_take]
   refine A4 rfl ?_
   refine CU (xs := (ws'.take n).map V.str) (ys := [pw].map V.str) (by walk_at "mm") (by walk_at "mm") (by simp only [List.length_map, List.length_take, sizeLine_eq, List.length_singleton]; omega) fun c3 => ?_
   rw [← List.map_append]
   refine BX ?_
   refine A4 rfl ?_
   refine Bs ?_
   refine A4 rfl ?_
   refine Br ?_
   refine Bc (ds := ws'.map V.str) (lo := some ((n : Nat) : Int)) (hi := none) ?hm (by rw [List.length_map]; exact hwz') (.int _) .none fun c4 => ?_
   case hm => first | exact Ir hw | exact Iu hw
   rw [EP, ← List.map_drop]
   refine CU (xs := (ws'.take n ++ [pw]).map V.str) (ys := (ws'.drop n).map V.str) (by walk_at "mm") (by walk_at "mm") (by simp only [List.length_map, List.length_append, List.length_take, List.length_drop, sizeLine_eq, List.length_singleton]; omega) fun c5 => ?_
   rw [← List.map_append]
   refine AF ?_
   refine W.own5 ?_
   refine A8 ?_
   refine A8 ?_
   exact ⟨_, [(zs "words", V.ref c5), (zs "pool", V.ref pa), (zs "k", V.int kk), (zs "script", V.ref sa)], _, _, rfl, .cons (by kernel_rfl) (.cons (by kernel_rfl) (.cons (by kernel_rfl) (.cons (by kernel_rfl) .nil))), t, c5, (ws'.take n ++ [pw] ++ ws'.drop n), _, rfl, hlt', rfl, rfl, rfl, (.head _), (.tail _ (.tail _ (.tail _ (.tail _ (.tail _ hp))))), (by simp only [List.length_append, List.length_take, List.length_drop, List.length_singleton]; omega), fun w h => by
    rcases List.mem_append.mp h with h | h
    ·rcases List.mem_append.mp h with h | h
     ·exact hall w (List.mem_of_mem_take h)
     ·rw [List.mem_singleton] at h; subst h; exact .inr hpw
    ·exact hall w (List.mem_of_mem_drop h)⟩
  refine A6 ?_
  refine AY ?_
  refine AB ?_
  refine AP ?_
  refine A4 rfl ?_
  refine AL ?_
  refine FC (by decide) ?_
  refine AL ?_
  refine CX ?_
  refine ⟨_, rfl, ?_⟩
  refine AQ (fun h2 => ?_) (fun h2 => ?_)
  ·refine A6 ?_
   refine AD ?_
   refine AP ?_
   refine AP ?_
   refine BX ?_
   refine A4 rfl ?_
   refine Br ?_
   refine Bs ?_
   refine A4 rfl ?_
   refine Bc (ds := ws'.map V.str) (lo := none) (hi := some (n : Int)) ?hm (by rw [List.length_map]; exact hwz') .none (.int _) fun c2 => ?_
   case hm => exact mem_own hw
   rw [D3 _ _ (by rw [List.length_map]; exact hlt1), ← List.map_take]
   refine A4 rfl ?_
   refine CU (xs := (ws'.take n).map V.str) (ys := [pw].map V.str) (by walk_at "mm") (by walk_at "mm") (by simp only [List.length_map, List.length_take, sizeLine_eq, List.length_singleton]; omega) fun c3 => ?_
   rw [← List.map_append]
   refine BX ?_
   refine A4 rfl ?_
   refine Bs ?_
   refine AP ?_
   refine A4 rfl ?_
   refine AL ?_
   refine Cw ?_
   refine Br ?_
   rw [show (n : Int) + 1 = ((n + 1 : Nat) : Int) from rfl]
   refine Bc (ds := ws'.map V.str) (lo := some ((n + 1 : Nat) : Int)) (hi := none) ?hm (by rw [List.length_map]; exact hwz') (.int _) .none fun c4 => ?_
   case hm => first | exact Ir hw | exact Iu hw
   rw [EP, ← List.map_drop]
   refine CU (xs := (ws'.take n ++ [pw]).map V.str) (ys := (ws'.drop (n + 1)).map V.str) (by walk_at "mm") (by walk_at "mm") (by simp only [List.length_map, List.length_append, List.length_take, List.length_drop, sizeLine_eq, List.length_singleton]; omega) fun c5 => ?_
   rw [← List.map_append]
   refine AF ?_
   refine W.own5 ?_
   refine A8 ?_
   refine A8 ?_
   refine A8 ?_
   exact ⟨_, [(zs "words", V.ref c5), (zs "pool", V.ref pa), (zs "k", V.int kk), (zs "script", V.ref sa)], _, _, rfl, .cons (by kernel_rfl) (.cons (by kernel_rfl) (.cons (by kernel_rfl) (.cons (by kernel_rfl) .nil))), t, c5, (ws'.take n ++ [pw] ++ ws'.drop (n + 1)), _, rfl, hlt', rfl, rfl, rfl, (.head _), (.tail _ (.tail _ (.tail _ (.tail _ (.tail _ hp))))), (by simp only [List.length_append, List.length_take, List.length_drop, List.length_singleton]; omega), fun w h => by
    rcases List.mem_append.mp h with h | h
    ·rcases List.mem_append.mp h with h | h
     ·exact hall w (List.mem_of_mem_take h)
     ·rw [List.mem_singleton] at h; subst h; exact .inr hpw
    ·exact hall w (List.mem_of_mem_drop h)⟩
  refine A6 ?_
  refine AY ?_
  refine AB ?_
  refine AP ?_
  refine A4 rfl ?_
  refine AL ?_
  refine FC (by decide) ?_
  refine AL ?_
  refine CX ?_
  refine ⟨_, rfl, ?_⟩
  refine AQ (fun h3 => ?_) (fun h3 => ?_)
  ·refine A6 ?_
   refine AD ?_
   refine AP ?_
   refine BX ?_
   refine A4 rfl ?_
   refine Br ?_
   refine Bs ?_
   refine A4 rfl ?_
   refine Bc (ds := ws'.map V.str) (lo := none) (hi := some (n : Int)) ?hm (by rw [List.length_map]; exact hwz') .none (.int _) fun c2 => ?_
   case hm => exact mem_own hw
   rw [D3 _ _ (by rw [List.length_map]; exact hlt1), ← List.map_take]
   refine BX ?_
   refine A4 rfl ?_
   refine Bs ?_
   refine AP ?_
   refine A4 rfl ?_
   refine AL ?_
   refine Cw ?_
   refine Br ?_
   rw [show (n : Int) + 1 = ((n + 1 : Nat) : Int) from rfl]
   refine Bc (ds := ws'.map V.str) (lo := some ((n + 1 : Nat) : Int)) (hi := none) ?hm (by rw [List.length_map]; exact hwz') (.int _) .none fun c4 => ?_
   case hm => first | exact Ir hw | exact Iu hw
   rw [EP, ← List.map_drop]
   refine CU (xs := (ws'.take n).map V.str) (ys := (ws'.drop (n + 1)).map V.str) (by walk_at "mm") (by walk_at "mm") (by simp only [List.length_map, List.length_take, List.length_drop, sizeLine_eq]; omega) fun c5 => ?_
   rw [← List.map_append]
   refine AF ?_
   refine W.own4 ?_
   refine A8 ?_
   refine A8 ?_
   refine A8 ?_
   refine A8 ?_
   exact ⟨_, [(zs "words", V.ref c5), (zs "pool", V.ref pa), (zs "k", V.int kk), (zs "script", V.ref sa)], _, _, rfl, .cons (by kernel_rfl) (.cons (by kernel_rfl) (.cons (by kernel_rfl) (.cons (by kernel_rfl) .nil))), t, c5, (ws'.take n ++ ws'.drop (n + 1)), _, rfl, hlt', rfl, rfl, rfl, (.head _), (.tail _ (.tail _ (.tail _ (.tail _ hp)))), (by simp only [List.length_append, List.length_take, List.length_drop]; omega), fun w h => by
    rcases List.mem_append.mp h with h | h
    ·exact hall w (List.mem_of_mem_take h)
    ·exact hall w (List.mem_of_mem_drop h)⟩
  ·refine W.own1 ?_
   refine A8 ?_
   refine A8 ?_
   refine A8 ?_
   refine A8 ?_
   exact ⟨_, [(zs "words", V.ref wc), (zs "pool", V.ref pa), (zs "k", V.int kk), (zs "script", V.ref sa)], _, _, rfl, .cons (by kernel_rfl) (.cons (by kernel_rfl) (.cons (by kernel_rfl) (.cons (by kernel_rfl) .nil))), t, wc, ws', _, rfl, hlt', rfl, rfl, rfl, (.tail _ hw), (.tail _ hp), Nat.le_succ_of_le hlen, hall⟩
 ·rintro it I i R' m τ' ⟨t, wc, ws', X, rfl, hi, rfl, rfl, rfl, h⟩
  exact ⟨hi, fun m' => trivial⟩
 ·rintro it I R' m m' τ' ⟨t, wc, ws', X, rfl, hi, rfl, rfl, rfl, hw, hp, hlen, hall⟩ hsub
  refine W.pre ?_ (fun h S => S.weak hsub)
  refine A6 ?_
  refine AG ?_
  refine A4 rfl ?_
  exact ret_mem hw (q _ _ hlen hall)
end
end Mine
namespace Mine
section
variable {g : G} {k : Nat} {τ σ R : Store} {Q : V → Store → Prop} {b : Nat} {L₀ : Addr} {m₀ : Loc} {env : Env}
theorem ret_init {p1 p2 : Addr × Cell} {L : Addr} {m : Loc} {X : Store} (q : Q .none (Fm R L₀ m₀ (p1 :: p2 :: (X ++ τ)))) : BC Q .next (Fm (Fm R L₀ m₀ (p1 :: p2 :: τ)) L m X) := by
 refine ⟨Fm R L₀ m₀ (p1 :: p2 :: τ) ++ X, _, List.Sublist.append_left (List.Sublist.cons _ (List.Sublist.refl _)) _, ?_, q⟩
 show ((R ++ (L₀, Cell.ns m₀) :: p1 :: p2 :: τ) ++ X).Perm (R ++ (L₀, Cell.ns m₀) :: p1 :: p2 :: (X ++ τ))
 rw [List.append_assoc]
 exact List.Perm.append_left R (List.Perm.cons _ (List.Perm.cons _ (List.Perm.cons _ List.perm_append_comm)))
theorem Am {x dx C : Addr} {name : Str} {fs : List (Str × V)} {d : V} {L : Addr} {m : Loc} {X : Store} {Q : Unit → Store → Prop} (ok : BM g.K C name = true)
  (q : Q () (Fm (Fm R L₀ m₀ ((x, .inst C dx) :: (dx, .nsd (Es name d fs)) :: τ)) L m X)) (hz : fs.length ≤ 900 := by simp) :
  O2 g k EqR (Fm (Fm R L₀ m₀ ((x, .inst C dx) :: (dx, .nsd fs) :: τ)) L m X) (fun ov v => setAttr ov name v) (.ref x) d Q :=
 Bp (List.mem_append_left _ (List.mem_append_right _ (.tail _ (.head _)))) (((Upd1.tail (Upd1.tail .head)).append_left R).append_right _) ok q hz
theorem okS_init (P : Params) : BM (gK P) 150 (zs "tree") = true ∧ BM (gK P) 150 (zs "items") = true := ⟨by kernel_rfl, by kernel_rfl⟩
theorem okF_init (P : Params) : BM (gK P) 434 (zs "tree") = true ∧ BM (gK P) 434 (zs "items") = true := ⟨by kernel_rfl, by kernel_rfl⟩
theorem Eg {x dx tr : Addr} (q : ∀ items, Q .none (Fm R L₀ m₀ ((x, .inst 150 dx) :: (dx, .nsd [(zs "tree", .ref tr), (zs "items", .ref items)]) :: (items, .list []) :: τ))) :
  Fn g (k + 1) 63 [.ref x, .ref tr] (Fm R L₀ m₀ ((x, .inst 150 dx) :: (dx, .nsd []) :: τ)) Q := by
 refine Ch ?_
 refine AN [(zs "tree", .ref tr), (zs "self", .ref x)] (FM _) (FS _) (DB (fun _ _ => by kernel_rfl) (by kernel_rfl)) (fun L => ?_) (by decide +kernel) (by kernel_rfl) (by kernel_rfl) (by kernel_rfl)
 conv in stB _ => whnf
 conv in stS _ => whnf
 refine A6 ?_
 refine AK ?_
 refine A4 rfl ?_
 refine A4 rfl ?_
 refine Am (okS_init _).1 ?_
 refine A6 ?_
 refine AK ?_
 refine Af ?_
 refine A7 ?_
 refine ⟨_, _, _, _, rfl, sz_lit rfl, fun c => ?_⟩
 refine A4 rfl ?_
 refine Am (okS_init _).2 ?_ (Nat.le_of_ble_eq_true (by kernel_rfl))
 refine A8 ?_
 exact ret_init (q _)
theorem EQ {x dx tr : Addr} (q : ∀ items, Q .none (Fm R L₀ m₀ ((x, .inst 434 dx) :: (dx, .nsd [(zs "tree", .ref tr), (zs "items", .ref items)]) :: (items, .list []) :: τ))) :
  Fn g (k + 1) 368 [.ref x, .ref tr] (Fm R L₀ m₀ ((x, .inst 434 dx) :: (dx, .nsd []) :: τ)) Q := by
 refine Ch ?_
 refine AN [(zs "tree", .ref tr), (zs "self", .ref x)] (Ey _) (Ez _) (DB (fun _ _ => by kernel_rfl) (by kernel_rfl)) (fun L => ?_) (by decide +kernel) (by kernel_rfl) (by kernel_rfl) (by kernel_rfl)
 conv in stB _ => whnf
 conv in stS _ => whnf
 refine A6 ?_
 refine AK ?_
 refine A4 rfl ?_
 refine A4 rfl ?_
 refine Am (okF_init _).1 ?_
 refine A6 ?_
 refine AK ?_
 refine Af ?_
 refine A7 ?_
 refine ⟨_, _, _, _, rfl, sz_lit rfl, fun c => ?_⟩
 refine A4 rfl ?_
 refine Am (okF_init _).2 ?_ (Nat.le_of_ble_eq_true (by kernel_rfl))
 refine A8 ?_
 exact ret_init (q _)
noncomputable def t0F (kinds spaces names attrs texts parents children contents : Addr) : List (Str × V) := [((zs "kinds"), .ref kinds), ((zs "spaces"), .ref spaces), ((zs "names"), .ref names), ((zs "attrs"), .ref attrs), ((zs "texts"), .ref texts), ((zs "parents"), .ref parents), ((zs "children"), .ref children), ((zs "contents"), .ref contents)]
theorem okT_init (P : Params) : ["kinds", "spaces", "names", "attrs", "texts", "parents", "children", "contents"].all (fun n => BM (gK P) 558 (Str.ofString n)) = true := by kernel_rfl
end
end Mine
namespace Mine
section
variable {g : G} {k : Nat} {τ σ R : Store} {Q : V → Store → Prop} {b : Nat} {L₀ : Addr} {m₀ : Loc} {env : Env}
noncomputable def Iw : Str := zs "document"
noncomputable def T0c (x dx ki sp na at_ te pa ch co : Addr) (a b c d e f h : List V) : Store := [(x, .inst 558 dx), (dx, .nsd (t0F ki sp na at_ te pa ch co)), (ki, .list a), (sp, .list b), (na, .list c), (at_, .list d), (te, .list e), (pa, .list f), (ch, .list h), (co, .idict [])]
section
variable {x dx ki sp na at_ te pa ch co : Addr} {a b c d e f h : List V}
theorem A0 {name : Str} {v : V} {X : Store} (ok : BG g.K 558 name = true) (hl : (t0F ki sp na at_ te pa ch co).lookup name = some v) (hh : v.handed = true) (q : Q v (T0c x dx ki sp na at_ te pa ch co a b c d e f h ++ X)) :
  O1 g k Is (T0c x dx ki sp na at_ te pa ch co a b c d e f h ++ X) (fun v => getAttr v name true) (.ref x) Q := Az (List.mem_append_left _ (.head _)) (List.mem_append_left _ (.tail _ (.head _))) ok hl hh q
theorem ap0_ki {v : V} {X : Store} (hz : a.length ≤ 1000) (q : Q .none (T0c x dx ki sp na at_ te pa ch co (a ++ [v]) b c d e f h ++ X)) : Cl g k (.builtin "list.append") [.ref ki, v] (T0c x dx ki sp na at_ te pa ch co a b c d e f h ++ X) Q := Aa (σ' := T0c x dx ki sp na at_ te pa ch co (a ++ [v]) b c d e f h ++ X) ((show Upd1 ki (.list a) (.list (a ++ [v])) (T0c x dx ki sp na at_ te pa ch co a b c d e f h) (T0c x dx ki sp na at_ te pa ch co (a ++ [v]) b c d e f h) from .tail (.tail (.head))).append_right X) (line_le hz (by decide)) q
theorem m0_ki (X : Store) : (ki, Cell.list a) ∈ T0c x dx ki sp na at_ te pa ch co a b c d e f h ++ X := List.mem_append_left _ (.tail _ (.tail _ (.head _)))
theorem ap0_sp {v : V} {X : Store} (hz : b.length ≤ 1000) (q : Q .none (T0c x dx ki sp na at_ te pa ch co a (b ++ [v]) c d e f h ++ X)) : Cl g k (.builtin "list.append") [.ref sp, v] (T0c x dx ki sp na at_ te pa ch co a b c d e f h ++ X) Q := Aa (σ' := T0c x dx ki sp na at_ te pa ch co a (b ++ [v]) c d e f h ++ X) ((show Upd1 sp (.list b) (.list (b ++ [v])) (T0c x dx ki sp na at_ te pa ch co a b c d e f h) (T0c x dx ki sp na at_ te pa ch co a (b ++ [v]) c d e f h) from .tail (.tail (.tail (.head)))).append_right X) (line_le hz (by decide)) q
theorem m0_sp (X : Store) : (sp, Cell.list b) ∈ T0c x dx ki sp na at_ te pa ch co a b c d e f h ++ X := List.mem_append_left _ (.tail _ (.tail _ (.tail _ (.head _))))
theorem ap0_na {v : V} {X : Store} (hz : c.length ≤ 1000) (q : Q .none (T0c x dx ki sp na at_ te pa ch co a b (c ++ [v]) d e f h ++ X)) : Cl g k (.builtin "list.append") [.ref na, v] (T0c x dx ki sp na at_ te pa ch co a b c d e f h ++ X) Q := Aa (σ' := T0c x dx ki sp na at_ te pa ch co a b (c ++ [v]) d e f h ++ X) ((show Upd1 na (.list c) (.list (c ++ [v])) (T0c x dx ki sp na at_ te pa ch co a b c d e f h) (T0c x dx ki sp na at_ te pa ch co a b (c ++ [v]) d e f h) from .tail (.tail (.tail (.tail (.head))))).append_right X) (line_le hz (by decide)) q
theorem m0_na (X : Store) : (na, Cell.list c) ∈ T0c x dx ki sp na at_ te pa ch co a b c d e f h ++ X := List.mem_append_left _ (.tail _ (.tail _ (.tail _ (.tail _ (.head _)))))
theorem ap0_at_ {v : V} {X : Store} (hz : d.length ≤ 1000) (q : Q .none (T0c x dx ki sp na at_ te pa ch co a b c (d ++ [v]) e f h ++ X)) : Cl g k (.builtin "list.append") [.ref at_, v] (T0c x dx ki sp na at_ te pa ch co a b c d e f h ++ X) Q := Aa (σ' := T0c x dx ki sp na at_ te pa ch co a b c (d ++ [v]) e f h ++ X) ((show Upd1 at_ (.list d) (.list (d ++ [v])) (T0c x dx ki sp na at_ te pa ch co a b c d e f h) (T0c x dx ki sp na at_ te pa ch co a b c (d ++ [v]) e f h) from .tail (.tail (.tail (.tail (.tail (.head)))))).append_right X) (line_le hz (by decide)) q
theorem m0_at_ (X : Store) : (at_, Cell.list d) ∈ T0c x dx ki sp na at_ te pa ch co a b c d e f h ++ X := List.mem_append_left _ (.tail _ (.tail _ (.tail _ (.tail _ (.tail _ (.head _))))))
theorem ap0_te {v : V} {X : Store} (hz : e.length ≤ 1000) (q : Q .none (T0c x dx ki sp na at_ te pa ch co a b c d (e ++ [v]) f h ++ X)) : Cl g k (.builtin "list.append") [.ref te, v] (T0c x dx ki sp na at_ te pa ch co a b c d e f h ++ X) Q := Aa (σ' := T0c x dx ki sp na at_ te pa ch co a b c d (e ++ [v]) f h ++ X) ((show Upd1 te (.list e) (.list (e ++ [v])) (T0c x dx ki sp na at_ te pa ch co a b c d e f h) (T0c x dx ki sp na at_ te pa ch co a b c d (e ++ [v]) f h) from .tail (.tail (.tail (.tail (.tail (.tail (.head))))))).append_right X) (line_le hz (by decide)) q
theorem m0_te (X : Store) : (te, Cell.list e) ∈ T0c x dx ki sp na at_ te pa ch co a b c d e f h ++ X := List.mem_append_left _ (.tail _ (.tail _ (.tail _ (.tail _ (.tail _ (.tail _ (.head _)))))))
theorem ap0_pa {v : V} {X : Store} (hz : f.length ≤ 1000) (q : Q .none (T0c x dx ki sp na at_ te pa ch co a b c d e (f ++ [v]) h ++ X)) : Cl g k (.builtin "list.append") [.ref pa, v] (T0c x dx ki sp na at_ te pa ch co a b c d e f h ++ X) Q := Aa (σ' := T0c x dx ki sp na at_ te pa ch co a b c d e (f ++ [v]) h ++ X) ((show Upd1 pa (.list f) (.list (f ++ [v])) (T0c x dx ki sp na at_ te pa ch co a b c d e f h) (T0c x dx ki sp na at_ te pa ch co a b c d e (f ++ [v]) h) from .tail (.tail (.tail (.tail (.tail (.tail (.tail (.head)))))))).append_right X) (line_le hz (by decide)) q
theorem m0_pa (X : Store) : (pa, Cell.list f) ∈ T0c x dx ki sp na at_ te pa ch co a b c d e f h ++ X := List.mem_append_left _ (.tail _ (.tail _ (.tail _ (.tail _ (.tail _ (.tail _ (.tail _ (.head _))))))))
theorem ap0_ch {v : V} {X : Store} (hz : h.length ≤ 1000) (q : Q .none (T0c x dx ki sp na at_ te pa ch co a b c d e f (h ++ [v]) ++ X)) : Cl g k (.builtin "list.append") [.ref ch, v] (T0c x dx ki sp na at_ te pa ch co a b c d e f h ++ X) Q := Aa (σ' := T0c x dx ki sp na at_ te pa ch co a b c d e f (h ++ [v]) ++ X) ((show Upd1 ch (.list h) (.list (h ++ [v])) (T0c x dx ki sp na at_ te pa ch co a b c d e f h) (T0c x dx ki sp na at_ te pa ch co a b c d e f (h ++ [v])) from .tail (.tail (.tail (.tail (.tail (.tail (.tail (.tail (.head))))))))).append_right X) (line_le hz (by decide)) q
theorem m0_ch (X : Store) : (ch, Cell.list h) ∈ T0c x dx ki sp na at_ te pa ch co a b c d e f h ++ X := List.mem_append_left _ (.tail _ (.tail _ (.tail _ (.tail _ (.tail _ (.tail _ (.tail _ (.tail _ (.head _)))))))))
end
theorem Tree_add0 {x dx ki sp na at_ te pa ch co : Addr} (q : ∀ a c, Q (.int 0) (T0c x dx ki sp na at_ te pa ch co [.str Iw] [.str es] [.str es] [.ref a] [.str es] [.int (-1)] [.ref c] ++ ((c, .list []) :: (a, .list []) :: τ))) :
  Fn g (k + 1) 468 [.ref x, .str Iw] (T0c x dx ki sp na at_ te pa ch co [] [] [] [] [] [] [] ++ τ) Q := by
 refine AN (R := T0c x dx ki sp na at_ te pa ch co [] [] [] [] [] [] []) [(zs "text", .str es), (zs "attrs", .tup []), (zs "name", .str es), (zs "space", .str es), (zs "kind", .str Iw), (zs "self", .ref x)] (GU _) (GW _) (bndD2 (mex := [(zs "text", .str es), (zs "attrs", .tup []), (zs "name", .str es), (zs "space", .str es)]) (ex := [(zs "space", .str (zs "") 773), (zs "name", .str (zs "") 774), (zs "attrs", .ref 460), (zs "text", .str (zs "") 775)]) rfl (ED _) rfl (fun _ _ => rfl) (fun _ _ => by kernel_rfl) (fun h X => .cons (.str _ _) (.cons (.tup (X _ _ (et_460 _)) .nil) (.cons (.str _ _) (.cons (.str _ _) .nil)))) (by kernel_rfl)) (fun L => ?_) (by decide +kernel) (by kernel_rfl) (by kernel_rfl) (by kernel_rfl)
 conv in stB _ => whnf
 conv in stS _ => whnf
 refine A6 ?_
 refine AI ?_
 refine AH ?_
 refine AC ?_
 refine A4 rfl ?_
 refine A0 (G4 _) rfl rfl ?_
 refine Aq (TyOf.list (m0_ki _)) F.plainAttrs_list F.slot_list_append F.type_list_append ?_
 refine A5 ?_
 refine A4 rfl ?_
 refine A7 ?_
 refine ap0_ki (Nat.zero_le _) ?_
 refine ⟨rfl, ?_⟩
 refine A6 ?_
 refine AI ?_
 refine AH ?_
 refine AC ?_
 refine A4 rfl ?_
 refine A0 (Hg _) rfl rfl ?_
 refine Aq (TyOf.list (m0_sp _)) F.plainAttrs_list F.slot_list_append F.type_list_append ?_
 refine A5 ?_
 refine A4 rfl ?_
 refine A7 ?_
 refine ap0_sp (Nat.zero_le _) ?_
 refine ⟨rfl, ?_⟩
 refine A6 ?_
 refine AI ?_
 refine AH ?_
 refine AC ?_
 refine A4 rfl ?_
 refine A0 (okT_names _) rfl rfl ?_
 refine Aq (TyOf.list (m0_na _)) F.plainAttrs_list F.slot_list_append F.type_list_append ?_
 refine A5 ?_
 refine A4 rfl ?_
 refine A7 ?_
 refine ap0_na (Nat.zero_le _) ?_
 refine ⟨rfl, ?_⟩
 refine A6 ?_
 refine AI ?_
 refine AH ?_
 refine AC ?_
 refine A4 rfl ?_
 refine A0 (okT_attrs _) rfl rfl ?_
 refine Aq (TyOf.list (m0_at_ _)) F.plainAttrs_list F.slot_list_append F.type_list_append ?_
 refine A5 ?_
 refine Ap (C9 _) rfl (by decide) ?_
 refine A5 ?_
 refine A4 rfl ?_
 refine A7 ?_
 refine Hd (ds := []) (sz_lit rfl) fun aa => ?_
 refine A7 ?_
 refine ap0_at_ (Nat.zero_le _) ?_
 refine ⟨rfl, ?_⟩
 refine A6 ?_
 refine AI ?_
 refine AH ?_
 refine AC ?_
 refine A4 rfl ?_
 refine A0 (okT_texts _) rfl rfl ?_
 refine Aq (TyOf.list (m0_te _)) F.plainAttrs_list F.slot_list_append F.type_list_append ?_
 refine A5 ?_
 refine A4 rfl ?_
 refine A7 ?_
 refine ap0_te (Nat.zero_le _) ?_
 refine ⟨rfl, ?_⟩
 refine A6 ?_
 refine AI ?_
 refine AH ?_
 refine AC ?_
 refine A4 rfl ?_
 refine A0 (GT _) rfl rfl ?_
 refine Aq (TyOf.list (m0_pa _)) F.plainAttrs_list F.slot_list_append F.type_list_append ?_
 refine A5 ?_
 refine AX ?_
 refine AL ?_
 refine B8 ?_
 refine A7 ?_
 refine ap0_pa (Nat.zero_le _) ?_
 refine ⟨rfl, ?_⟩
 refine A6 ?_
 refine AI ?_
 refine AH ?_
 refine AC ?_
 refine A4 rfl ?_
 refine A0 (FJ _) rfl rfl ?_
 refine Aq (TyOf.list (m0_ch _)) F.plainAttrs_list F.slot_list_append F.type_list_append ?_
 refine A5 ?_
 refine Af ?_
 refine A7 ?_
 refine ⟨_, _, _, _, rfl, sz_lit rfl, fun c => ?_⟩
 refine A7 ?_
 refine ap0_ch (Nat.zero_le _) ?_
 refine ⟨rfl, ?_⟩
 refine A6 ?_
 refine AG ?_
 refine AP ?_
 refine Ar (BN _) rfl (by decide) ?_
 refine A5 ?_
 refine AC ?_
 refine A4 rfl ?_
 refine A0 (G4 _) rfl rfl ?_
 refine A7 ?_
 refine BT (m0_ki _) (sz_lit rfl) ?_
 refine AL ?_
 refine Hb ?_
 exact AR (Ak ..) (q aa _)
theorem perm_t0 (l0 l p1 p2 : Addr × Cell) (X : Store) : ((R ++ l0 :: p1 :: p2 :: τ) ++ l :: X).Perm ((p1 :: p2 :: X.reverse) ++ (R ++ l0 :: (τ ++ [l]))) := by
 have h1 : (R ++ l0 :: p1 :: p2 :: τ).Perm (p1 :: p2 :: (R ++ l0 :: τ)) := by
  have a : (R ++ l0 :: p1 :: p2 :: τ).Perm (p1 :: ((R ++ [l0]) ++ p2 :: τ)) := by
   rw [show R ++ l0 :: p1 :: p2 :: τ = (R ++ [l0]) ++ p1 :: p2 :: τ by simp]; exact List.perm_middle
  have b : ((R ++ [l0]) ++ p2 :: τ).Perm (p2 :: (R ++ l0 :: τ)) := by
   rw [show R ++ l0 :: τ = (R ++ [l0]) ++ τ by simp]; exact List.perm_middle
  exact a.trans (List.Perm.cons _ b)
 refine (h1.append_right _).trans (List.Perm.cons _ (List.Perm.cons _ ?_))
 have h2 : (l :: X).Perm ([l] ++ X.reverse) := List.Perm.cons _ (List.reverse_perm X).symm
 refine (List.Perm.append_left _ h2).trans ?_
 rw [show R ++ l0 :: (τ ++ [l]) = (R ++ l0 :: τ) ++ [l] by simp]
 have h3 := List.perm_append_comm (l₁ := (R ++ l0 :: τ) ++ [l]) (l₂ := X.reverse)
 rwa [List.append_assoc] at h3
theorem perm_t1 (l0 : Addr × Cell) (Y : Store) : (Y ++ (R ++ l0 :: τ)).Perm (R ++ l0 :: (Y ++ τ)) :=
 (List.perm_append_comm_assoc Y R _).trans (List.Perm.append_left R List.perm_middle)
theorem Ix {x dx : Addr} (q : ∀ ki sp na at_ te pa ch co a c, Q .none (Fm R L₀ m₀ (T0c x dx ki sp na at_ te pa ch co [.str Iw] [.str es] [.str es] [.ref a] [.str es] [.int (-1)] [.ref c] ++ ((c, .list []) :: (a, .list []) :: τ)))) :
  Fn g (k + 2) 459 [.ref x] (Fm R L₀ m₀ ((x, .inst 558 dx) :: (dx, .nsd []) :: τ)) Q := by
 refine Ch ?_
 refine AN [(zs "self", .ref x)] (lk_Tree_init _) (cd_Tree_init _) (Fz (fun _ => by kernel_rfl) (by kernel_rfl)) (fun L => ?_) (by decide +kernel) (by kernel_rfl) (by kernel_rfl) (by kernel_rfl)
 conv in stB _ => whnf
 conv in stS _ => whnf
 have ok : ∀ n ∈ ["kinds", "spaces", "names", "attrs", "texts", "parents", "children", "contents"], BM g.K 558 (Str.ofString n) = true := fun n h => List.all_eq_true.mp (okT_init _) n h
 refine A6 ?_
 refine AK ?_
 refine Af ?_
 refine A7 ?_
 refine ⟨_, _, _, _, rfl, sz_lit rfl, fun c => ?_⟩
 refine A4 rfl ?_
 rename Addr => ki
 refine Am (ok _ (by decide)) ?_
 refine A6 ?_
 refine AK ?_
 refine Af ?_
 refine A7 ?_
 refine ⟨_, _, _, _, rfl, sz_lit rfl, fun c => ?_⟩
 refine A4 rfl ?_
 rename Addr => sp
 refine Am (ok _ (by decide)) ?_ (Nat.le_of_ble_eq_true (by kernel_rfl))
 refine A6 ?_
 refine AK ?_
 refine Af ?_
 refine A7 ?_
 refine ⟨_, _, _, _, rfl, sz_lit rfl, fun c => ?_⟩
 refine A4 rfl ?_
 rename Addr => na
 refine Am (ok _ (by decide)) ?_ (Nat.le_of_ble_eq_true (by kernel_rfl))
 refine A6 ?_
 refine AK ?_
 refine Af ?_
 refine A7 ?_
 refine ⟨_, _, _, _, rfl, sz_lit rfl, fun c => ?_⟩
 refine A4 rfl ?_
 rename Addr => at_
 refine Am (ok _ (by decide)) ?_ (Nat.le_of_ble_eq_true (by kernel_rfl))
 refine A6 ?_
 refine AK ?_
 refine Af ?_
 refine A7 ?_
 refine ⟨_, _, _, _, rfl, sz_lit rfl, fun c => ?_⟩
 refine A4 rfl ?_
 rename Addr => te
 refine Am (ok _ (by decide)) ?_ (Nat.le_of_ble_eq_true (by kernel_rfl))
 refine A6 ?_
 refine AK ?_
 refine Af ?_
 refine A7 ?_
 refine ⟨_, _, _, _, rfl, sz_lit rfl, fun c => ?_⟩
 refine A4 rfl ?_
 rename Addr => pa
 refine Am (ok _ (by decide)) ?_ (Nat.le_of_ble_eq_true (by kernel_rfl))
 refine A6 ?_
 refine AK ?_
 refine Af ?_
 refine A7 ?_
 refine ⟨_, _, _, _, rfl, sz_lit rfl, fun c => ?_⟩
 refine A4 rfl ?_
 rename Addr => ch
 refine Am (ok _ (by decide)) ?_ (Nat.le_of_ble_eq_true (by kernel_rfl))
 refine A6 ?_
 refine AK ?_
 refine Fk fun co => ?_
 refine A4 rfl ?_
 refine Am (ok _ (by decide)) ?_ (Nat.le_of_ble_eq_true (by kernel_rfl))
 refine A6 ?_
 refine AI ?_
 refine AH ?_
 refine A4 rfl ?_
 refine Ag (x := x) (C := 558) (dx := dx) (List.mem_append_left _ (List.mem_append_right _ (.tail _ (.head _)))) (List.mem_append_left _ (List.mem_append_right _ (.tail _ (.tail _ (.head _))))) (E6 _) (by kernel_rfl) ?_
 refine A5 ?_
 refine A9 ?_
 refine A7 ?_
 refine Fn.pre (σ' := T0c x dx ki sp na at_ te pa ch co [] [] [] [] [] [] [] ++ (R ++ (L₀, Cell.ns m₀) :: (τ ++ [(L, Cell.ns [(zs "self", V.ref x)])]))) ?_ (fun h S => S.perm (perm_t0 ..))
 refine Tree_add0 fun a c => ?_
 refine ⟨rfl, ?_⟩
 refine A8 ?_
 refine ⟨T0c x dx ki sp na at_ te pa ch co [.str Iw] [.str es] [.str es] [.ref a] [.str es] [.int (-1)] [.ref c] ++ ([(c, .list []), (a, .list [])] ++ (R ++ (L₀, Cell.ns m₀) :: τ)), _, ?_, ?_, q ki sp na at_ te pa ch co a c⟩
 ·exact List.Sublist.append_left (List.Sublist.cons_cons _ (List.Sublist.cons_cons _ (List.Sublist.append_left (List.Sublist.cons_cons _ (List.sublist_append_left _ _)) _))) _
 ·rw [← List.append_assoc]
  refine (perm_t1 ..).trans ?_
  rw [List.append_assoc]
  exact List.Perm.refl _
end
end Mine
namespace Mine
section
variable {g : G} {k : Nat} {τ σ R : Store} {Q : V → Store → Prop} {b : Nat} {L₀ : Addr} {m₀ : Loc} {env : Env}
theorem permB {α : Type} (pending errors owners modes fm fmd fitems st std items tr trd ki sp na at_ te pa ch co tc ta : α) : [pending, errors, owners, modes, fm, fmd, fitems, st, std, items, tr, trd, ki, sp, na, at_, te, pa, ch, co, tc, ta].Perm [tr, trd, st, std, fm, fmd, ki, sp, na, at_, te, pa, ch, co, items, fitems, modes, owners, errors, ta, tc, pending] :=
 ((List.perm_middle (a := tr) (l₁ := [pending, errors, owners, modes, fm, fmd, fitems, st, std, items]) (l₂ := [trd, ki, sp, na, at_, te, pa, ch, co, tc, ta])).trans (List.Perm.cons tr ((List.perm_middle (a := trd) (l₁ := [pending, errors, owners, modes, fm, fmd, fitems, st, std, items]) (l₂ := [ki, sp, na, at_, te, pa, ch, co, tc, ta])).trans (List.Perm.cons trd ((List.perm_middle (a := st) (l₁ := [pending, errors, owners, modes, fm, fmd, fitems]) (l₂ := [std, items, ki, sp, na, at_, te, pa, ch, co, tc, ta])).trans (List.Perm.cons st ((List.perm_middle (a := std) (l₁ := [pending, errors, owners, modes, fm, fmd, fitems]) (l₂ := [items, ki, sp, na, at_, te, pa, ch, co, tc, ta])).trans (List.Perm.cons std ((List.perm_middle (a := fm) (l₁ := [pending, errors, owners, modes]) (l₂ := [fmd, fitems, items, ki, sp, na, at_, te, pa, ch, co, tc, ta])).trans (List.Perm.cons fm ((List.perm_middle (a := fmd) (l₁ := [pending, errors, owners, modes]) (l₂ := [fitems, items, ki, sp, na, at_, te, pa, ch, co, tc, ta])).trans (List.Perm.cons fmd ((List.perm_middle (a := ki) (l₁ := [pending, errors, owners, modes, fitems, items]) (l₂ := [sp, na, at_, te, pa, ch, co, tc, ta])).trans (List.Perm.cons ki ((List.perm_middle (a := sp) (l₁ := [pending, errors, owners, modes, fitems, items]) (l₂ := [na, at_, te, pa, ch, co, tc, ta])).trans (List.Perm.cons sp ((List.perm_middle (a := na) (l₁ := [pending, errors, owners, modes, fitems, items]) (l₂ := [at_, te, pa, ch, co, tc, ta])).trans (List.Perm.cons na ((List.perm_middle (a := at_) (l₁ := [pending, errors, owners, modes, fitems, items]) (l₂ := [te, pa, ch, co, tc, ta])).trans (List.Perm.cons at_ ((List.perm_middle (a := te) (l₁ := [pending, errors, owners, modes, fitems, items]) (l₂ := [pa, ch, co, tc, ta])).trans (List.Perm.cons te ((List.perm_middle (a := pa) (l₁ := [pending, errors, owners, modes, fitems, items]) (l₂ := [ch, co, tc, ta])).trans (List.Perm.cons pa ((List.perm_middle (a := ch) (l₁ := [pending, errors, owners, modes, fitems, items]) (l₂ := [co, tc, ta])).trans (List.Perm.cons ch ((List.perm_middle (a := co) (l₁ := [pending, errors, owners, modes, fitems, items]) (l₂ := [tc, ta])).trans (List.Perm.cons co ((List.perm_middle (a := items) (l₁ := [pending, errors, owners, modes, fitems]) (l₂ := [tc, ta])).trans (List.Perm.cons items ((List.perm_middle (a := fitems) (l₁ := [pending, errors, owners, modes]) (l₂ := [tc, ta])).trans (List.Perm.cons fitems ((List.perm_middle (a := modes) (l₁ := [pending, errors, owners]) (l₂ := [tc, ta])).trans (List.Perm.cons modes ((List.perm_middle (a := owners) (l₁ := [pending, errors]) (l₂ := [tc, ta])).trans (List.Perm.cons owners ((List.perm_middle (a := errors) (l₁ := [pending]) (l₂ := [tc, ta])).trans (List.Perm.cons errors ((List.perm_middle (a := ta) (l₁ := [pending, tc]) (l₂ := [])).trans (List.Perm.cons ta ((List.perm_middle (a := tc) (l₁ := [pending]) (l₂ := [])).trans (List.Perm.cons tc (List.Perm.cons pending List.Perm.nil)))))))))))))))))))))))))))))))))))))))))))
theorem perm_front (l0 p1 p2 : Addr × Cell) (X : Store) : ((R ++ l0 :: p1 :: p2 :: τ) ++ X).Perm (p1 :: p2 :: (X ++ (l0 :: (τ ++ R)))) := by
 have h1 : (R ++ l0 :: p1 :: p2 :: τ).Perm (p1 :: p2 :: l0 :: (τ ++ R)) := by
  refine (List.perm_append_comm (l₁ := R) (l₂ := l0 :: p1 :: p2 :: τ)).trans ?_
  exact (List.Perm.swap p1 l0 _).trans (List.Perm.cons p1 (List.Perm.swap p2 l0 _))
 refine (h1.append_right X).trans ?_
 exact List.Perm.cons _ (List.Perm.cons _ List.perm_append_comm)
noncomputable def s0 (ta tc : Addr) : St := { kinds := [Iw], spaces := [es], names := [es], texts := [es], attrs := [[]], aA := [ta], parents := [-1], children := [[]], cA := [tc], contents := [], opn := [], fmt := [], mode := zs "initial", original := es, form := -1, owners := [], fs := true, quirks := zs "no-quirks", errors := [], wish := es, skip := false, ack := false }
noncomputable def B0 (x dx tr trd st std fm fmd ki sp na at_ te pa ch co items fitems modes owners errors rl pending : Addr) : BA := ⟨x, dx, tr, trd, st, std, fm, fmd, ki, sp, na, at_, te, pa, ch, co, items, fitems, modes, owners, errors, rl, pending⟩
noncomputable def XB (pending errors owners modes fm fmd fitems st std items tr trd ki sp na at_ te pa ch co tc ta : Addr) : Store := [(pending, .list []), (errors, .list []), (owners, .idict []), (modes, .list []), (fm, .inst 434 fmd), (fmd, .nsd [(zs "tree", V.ref tr), (zs "items", V.ref fitems)]), (fitems, .list []), (st, .inst 150 std), (std, .nsd [(zs "tree", V.ref tr), (zs "items", V.ref items)]), (items, .list []), (tr, .inst 558 trd), (trd, .nsd (t0F ki sp na at_ te pa ch co)), (ki, .list [.str Iw]), (sp, .list [.str es]), (na, .list [.str es]), (at_, .list [.ref ta]), (te, .list [.str es]), (pa, .list [.int (-1)]), (ch, .list [.ref tc]), (co, .idict []), (tc, .list []), (ta, .list [])]
theorem perm_B {x dx rl pending errors owners modes fm fmd fitems st std items tr trd ki sp na at_ te pa ch co tc ta : Addr} (l0 : Addr × Cell) : ((R ++ l0 :: (x, .inst 636 dx) :: (dx, .nsd (bF (B0 x dx tr trd st std fm fmd ki sp na at_ te pa ch co items fitems modes owners errors rl pending) (s0 ta tc))) :: τ) ++ XB pending errors owners modes fm fmd fitems st std items tr trd ki sp na at_ te pa ch co tc ta).Perm (AE (B0 x dx tr trd st std fm fmd ki sp na at_ te pa ch co items fitems modes owners errors rl pending) (s0 ta tc) ++ (l0 :: (pending, .list []) :: (τ ++ R))) := by
 refine (perm_front ..).trans ?_
 have h : (XB pending errors owners modes fm fmd fitems st std items tr trd ki sp na at_ te pa ch co tc ta).Perm [(tr, .inst 558 trd), (trd, .nsd (t0F ki sp na at_ te pa ch co)), (st, .inst 150 std), (std, .nsd [(zs "tree", V.ref tr), (zs "items", V.ref items)]), (fm, .inst 434 fmd), (fmd, .nsd [(zs "tree", V.ref tr), (zs "items", V.ref fitems)]), (ki, .list [.str Iw]), (sp, .list [.str es]), (na, .list [.str es]), (at_, .list [.ref ta]), (te, .list [.str es]), (pa, .list [.int (-1)]), (ch, .list [.ref tc]), (co, .idict []), (items, .list []), (fitems, .list []), (modes, .list []), (owners, .idict []), (errors, .list []), (ta, .list []), (tc, .list []), (pending, .list [])] := permB ..
 have h2 := h.append_right (l0 :: (τ ++ R))
 refine (List.Perm.cons _ (List.Perm.cons _ h2)).trans ?_
 have e : AE (B0 x dx tr trd st std fm fmd ki sp na at_ te pa ch co items fitems modes owners errors rl pending) (s0 ta tc) ++ (l0 :: (pending, .list []) :: (τ ++ R)) = (x, Cell.inst 636 dx) :: (dx, .nsd (bF (B0 x dx tr trd st std fm fmd ki sp na at_ te pa ch co items fitems modes owners errors rl pending) (s0 ta tc))) :: ([(tr, .inst 558 trd), (trd, .nsd (t0F ki sp na at_ te pa ch co)), (st, .inst 150 std), (std, .nsd [(zs "tree", V.ref tr), (zs "items", V.ref items)]), (fm, .inst 434 fmd), (fmd, .nsd [(zs "tree", V.ref tr), (zs "items", V.ref fitems)]), (ki, .list [.str Iw]), (sp, .list [.str es]), (na, .list [.str es]), (at_, .list [.ref ta]), (te, .list [.str es]), (pa, .list [.int (-1)]), (ch, .list [.ref tc]), (co, .idict []), (items, .list []), (fitems, .list []), (modes, .list []), (owners, .idict []), (errors, .list []), (ta, .list []), (tc, .list [])] ++ (l0 :: (pending, .list []) :: (τ ++ R))) := rfl
 rw [e]
 refine List.Perm.cons _ (List.Perm.cons _ ?_)
 have e2 : [(tr, .inst 558 trd), (trd, .nsd (t0F ki sp na at_ te pa ch co)), (st, .inst 150 std), (std, .nsd [(zs "tree", V.ref tr), (zs "items", V.ref items)]), (fm, .inst 434 fmd), (fmd, .nsd [(zs "tree", V.ref tr), (zs "items", V.ref fitems)]), (ki, .list [.str Iw]), (sp, .list [.str es]), (na, .list [.str es]), (at_, .list [.ref ta]), (te, .list [.str es]), (pa, .list [.int (-1)]), (ch, .list [.ref tc]), (co, .idict []), (items, .list []), (fitems, .list []), (modes, .list []), (owners, .idict []), (errors, .list []), (ta, .list []), (tc, .list []), (pending, .list [])] ++ (l0 :: (τ ++ R)) = [(tr, .inst 558 trd), (trd, .nsd (t0F ki sp na at_ te pa ch co)), (st, .inst 150 std), (std, .nsd [(zs "tree", V.ref tr), (zs "items", V.ref items)]), (fm, .inst 434 fmd), (fmd, .nsd [(zs "tree", V.ref tr), (zs "items", V.ref fitems)]), (ki, .list [.str Iw]), (sp, .list [.str es]), (na, .list [.str es]), (at_, .list [.ref ta]), (te, .list [.str es]), (pa, .list [.int (-1)]), (ch, .list [.ref tc]), (co, .idict []), (items, .list []), (fitems, .list []), (modes, .list []), (owners, .idict []), (errors, .list []), (ta, .list []), (tc, .list [])] ++ ((pending, Cell.list []) :: l0 :: (τ ++ R)) := rfl
 rw [e2]
 exact List.Perm.append_left _ (List.Perm.swap ..)
theorem ret_eq {fl : Fl} {σ σ' : Store} (h : BC Q fl σ') (e : σ = σ') : BC Q fl σ := e ▸ h
theorem ret_B {L : Addr} {m : Loc} {x dx rl pending errors owners modes fm fmd fitems st std items tr trd ki sp na at_ te pa ch co tc ta : Addr} (q : Q .none (AE (B0 x dx tr trd st std fm fmd ki sp na at_ te pa ch co items fitems modes owners errors rl pending) (s0 ta tc) ++ ((L₀, .ns m₀) :: (pending, .list []) :: (τ ++ R)))) : BC Q .next (Fm (Fm R L₀ m₀ ((x, .inst 636 dx) :: (dx, .nsd (bF (B0 x dx tr trd st std fm fmd ki sp na at_ te pa ch co items fitems modes owners errors rl pending) (s0 ta tc))) :: τ)) L m (XB pending errors owners modes fm fmd fitems st std items tr trd ki sp na at_ te pa ch co tc ta)) :=
 ⟨(R ++ (L₀, .ns m₀) :: (x, .inst 636 dx) :: (dx, .nsd (bF (B0 x dx tr trd st std fm fmd ki sp na at_ te pa ch co items fitems modes owners errors rl pending) (s0 ta tc))) :: τ) ++ XB pending errors owners modes fm fmd fitems st std items tr trd ki sp na at_ te pa ch co tc ta, _, List.Sublist.append_left (List.Sublist.cons _ (List.Sublist.refl _)) _, perm_B _, q⟩
set_option maxHeartbeats 2000000 in
theorem Fu {x dx rl : Addr} (q : ∀ (B : BA) ta tc, B.bd = x → Q .none (Fm (AE B (s0 ta tc)) L₀ m₀ ((B.pending, .list []) :: (τ ++ R)))) : Fn g (k + 4) 584 [.ref x, .ref rl] (Fm R L₀ m₀ ((x, .inst 636 dx) :: (dx, .nsd []) :: τ)) Q := by
 refine Ch ?_
 refine AN [(zs "is_scripting", .bool false), (zs "rules", .ref rl), (zs "self", .ref x)] (Gz _) (H7 _) (bndD2 (mex := [(zs "is_scripting", .bool false)]) (ex := [(zs "is_scripting", .bool false)]) rfl (HA _) rfl (fun _ _ => rfl) (fun _ _ => by kernel_rfl) (fun h X => .cons (by first | exact .bool _ | exact .str _ _ | exact .int _ _) (.nil)) (by kernel_rfl)) (fun L => ?_) (by decide +kernel) (by kernel_rfl) (by kernel_rfl) (by kernel_rfl)
 conv in stB _ => whnf
 conv in stS _ => whnf
 refine A6 ?_
 refine AK ?_
 refine A4 rfl ?_
 refine A4 rfl ?_
 refine Am (osB_rules _) ?_ (Nat.le_of_ble_eq_true (by kernel_rfl))
 refine A6 ?_
 refine AK ?_
 refine ET (gl_Tree _) (kp_Tree _) ?_
 refine HH (k := k + 2) (mk_Tree _) fun tr trd => ?_
 refine Ix fun ki sp na at_ te pa ch co ta tc => ?_
 refine ⟨rfl, ?_⟩
 refine A4 rfl ?_
 refine Am (osB_tree _) ?_ (Nat.le_of_ble_eq_true (by kernel_rfl))
 refine A6 ?_
 refine AK ?_
 refine AJ (gl_OpenStack _) (kp_OpenStack _) ?_
 refine A5 ?_
 refine AC ?_
 refine A4 rfl ?_
 refine Az (x := x) (C := 636) (dx := dx) (List.mem_append_left _ (List.mem_append_right _ (.tail _ (.head _)))) (List.mem_append_left _ (List.mem_append_right _ (.tail _ (.tail _ (.head _))))) (He _) (d := .ref tr) (by kernel_rfl) rfl ?_
 refine A7 ?_
 refine HH (k := k + 2) (mk_OpenStack _) fun st std => ?_
 refine Eg fun items => ?_
 refine ⟨rfl, ?_⟩
 refine A4 rfl ?_
 refine Am (osB_stack _) ?_ (Nat.le_of_ble_eq_true (by kernel_rfl))
 refine A6 ?_
 refine AK ?_
 refine AJ (gl_Formatting _) (kp_Formatting _) ?_
 refine A5 ?_
 refine AC ?_
 refine A4 rfl ?_
 refine Az (x := x) (C := 636) (dx := dx) (List.mem_append_left _ (List.mem_append_right _ (.tail _ (.head _)))) (List.mem_append_left _ (List.mem_append_right _ (.tail _ (.tail _ (.head _))))) (He _) (d := .ref tr) (by kernel_rfl) rfl ?_
 refine A7 ?_
 refine HH (k := k + 2) (mk_Formatting _) fun fm fmd => ?_
 refine EQ fun fitems => ?_
 refine ⟨rfl, ?_⟩
 refine A4 rfl ?_
 refine Am (Hh _) ?_ (Nat.le_of_ble_eq_true (by kernel_rfl))
 refine A6 ?_
 refine AK ?_
 refine A9 ?_
 refine A4 rfl ?_
 refine Am (osB_mode _) ?_ (Nat.le_of_ble_eq_true (by kernel_rfl))
 refine A6 ?_
 refine AK ?_
 refine A9 ?_
 refine A4 rfl ?_
 refine Am (FK _) ?_ (Nat.le_of_ble_eq_true (by kernel_rfl))
 refine A6 ?_
 refine AK ?_
 refine Af ?_
 refine A7 ?_
 refine ⟨_, _, _, _, rfl, sz_lit rfl, fun c => ?_⟩
 refine A4 rfl ?_
 rename Addr => modes
 refine Am (osB_modes _) ?_ (Nat.le_of_ble_eq_true (by kernel_rfl))
 refine A6 ?_
 refine AK ?_
 refine AX ?_
 refine AL ?_
 refine B8 ?_
 refine A4 rfl ?_
 refine Am (osB_head _) ?_ (Nat.le_of_ble_eq_true (by kernel_rfl))
 refine A6 ?_
 refine AK ?_
 refine AX ?_
 refine AL ?_
 refine B8 ?_
 refine A4 rfl ?_
 refine Am (osB_form _) ?_ (Nat.le_of_ble_eq_true (by kernel_rfl))
 refine A6 ?_
 refine AK ?_
 refine Fk fun owners => ?_
 refine A4 rfl ?_
 refine Am (osB_owners _) ?_ (Nat.le_of_ble_eq_true (by kernel_rfl))
 refine A6 ?_
 refine AK ?_
 refine As ?_
 refine A4 rfl ?_
 refine Am (Cx _) ?_ (Nat.le_of_ble_eq_true (by kernel_rfl))
 refine A6 ?_
 refine AK ?_
 refine A4 rfl ?_
 refine A4 rfl ?_
 refine Am (G5 _) ?_ (Nat.le_of_ble_eq_true (by kernel_rfl))
 refine A6 ?_
 refine AK ?_
 refine As ?_
 refine A4 rfl ?_
 refine Am (osB_is_foster _) ?_ (Nat.le_of_ble_eq_true (by kernel_rfl))
 refine A6 ?_
 refine AK ?_
 refine AX ?_
 refine AL ?_
 refine B8 ?_
 refine A4 rfl ?_
 refine Am (osB_context _) ?_ (Nat.le_of_ble_eq_true (by kernel_rfl))
 refine A6 ?_
 refine AK ?_
 refine A9 ?_
 refine A4 rfl ?_
 refine Am (Hi _) ?_ (Nat.le_of_ble_eq_true (by kernel_rfl))
 refine A6 ?_
 refine AK ?_
 refine Af ?_
 refine A7 ?_
 refine ⟨_, _, _, _, rfl, sz_lit rfl, fun c => ?_⟩
 refine A4 rfl ?_
 rename Addr => errors
 refine Am (osB_errors _) ?_ (Nat.le_of_ble_eq_true (by kernel_rfl))
 refine A6 ?_
 refine AK ?_
 refine Af ?_
 refine A7 ?_
 refine ⟨_, _, _, _, rfl, sz_lit rfl, fun c => ?_⟩
 refine A4 rfl ?_
 rename Addr => pending
 refine Am (osB_pending _) ?_ (Nat.le_of_ble_eq_true (by kernel_rfl))
 refine A6 ?_
 refine AK ?_
 refine A9 ?_
 refine A4 rfl ?_
 refine Am (osB_wish _) ?_ (Nat.le_of_ble_eq_true (by kernel_rfl))
 refine A6 ?_
 refine AK ?_
 refine As ?_
 refine A4 rfl ?_
 refine Am (Dr _) ?_ (Nat.le_of_ble_eq_true (by kernel_rfl))
 refine A6 ?_
 refine AK ?_
 refine As ?_
 refine A4 rfl ?_
 refine Am (Cj _) ?_ (Nat.le_of_ble_eq_true (by kernel_rfl))
 refine A6 ?_
 refine AK ?_
 refine As ?_
 refine A4 rfl ?_
 refine Am (osB_is_done _) ?_ (Nat.le_of_ble_eq_true (by kernel_rfl))
 refine A8 ?_
 refine ret_eq (σ' := Fm (Fm R L₀ m₀ ((x, .inst 636 dx) :: (dx, .nsd (bF (B0 x dx tr trd st std fm fmd ki sp na at_ te pa ch co items fitems modes owners errors rl pending) (s0 ta tc))) :: τ)) L [(zs "is_scripting", V.bool false), (zs "rules", V.ref rl), (zs "self", V.ref x)] (XB pending errors owners modes fm fmd fitems st std items tr trd ki sp na at_ te pa ch co tc ta)) ?h ?e
 case e => kernel_rfl
 case h => exact ret_B (q (B0 x dx tr trd st std fm fmd ki sp na at_ te pa ch co items fitems modes owners errors rl pending) ta tc rfl)
end
end Mine
namespace Mine
section
variable {g : G} {k : Nat} {τ σ R : Store} {Q : V → Store → Prop} {b : Nat} {L₀ : Addr} {m₀ : Loc} {env : Env}
theorem ok_s0 (ta tc : Addr) : Ok (s0 ta tc) := by
 refine ⟨rfl, rfl, rfl, rfl, rfl, rfl, rfl, rfl, Nat.one_pos, (fun x h => by cases h), (fun x h => by cases h), fun i x h => ?_, (fun p h => by cases h)⟩
 cases i with
 | zero => cases h; exact .inl rfl
 | succ i => cases h
theorem big_s0 (ta tc : Addr) : Big (s0 ta tc) 1 := by
 refine ⟨Nat.le_refl 1, Nat.zero_le _, Nat.zero_le _, Nat.zero_le _, Nat.zero_le _, Nat.zero_le _, fun a h => ?_, fun a h => ?_, by decide⟩
 ·cases h with
  | head => exact Nat.zero_le _
  | tail _ h => cases h
 ·cases h with
  | head => exact Nat.zero_le _
  | tail _ h => cases h
noncomputable def barS : Str := zs "|"
noncomputable def colonS : Str := zs ":"
noncomputable def idS : Str := zs "id"
noncomputable def starL : List Str := sL ["*", "-"]
noncomputable def ER (w : Str) : Str := match w.cps[0]? with | some c => ⟨#[c]⟩ | none => es
noncomputable def C0 (w : Str) : Bool := starL.contains (ER w)
noncomputable def B6 (w : Str) : List Str := Txt.split (if C0 w then Dm w else w) colonS
noncomputable def Bo (w : Str) : Str := (B6 w).getLastD es
noncomputable def BI (w : Str) : Str := if (B6 w).length == 2 then (B6 w).headD es else AU
noncomputable def St.mk1 (s : St) (w : Str) (a c a' c' : Addr) : St := if BI w == AU && Bo w == templateS then ((s.addN Ao (BI w) (Bo w) [(idS, w)] a c).addN Da es es [] a' c').putC s.names.length ((s.names.length : Int) + 1) else s.addN Ao (BI w) (Bo w) [(idS, w)] a c
noncomputable def St.mk2 (s : St) (w : Str) (n : Int) : St := if C0 w then { s with fmt := s.fmt ++ [n] } else s
noncomputable def St.mk3 (s : St) (w : Str) (up n : Int) : St := if ER w != zs "-" then (s.ins ((s.con up).getD up) n).setOpn (s.opn ++ [n]) else s
noncomputable def upOf (w : Str) (up n : Int) : Int := if ER w != zs "-" then n else up
noncomputable def St.word (s : St) (w : Str) (up : Int) (a c a' c' : Addr) : St := if w == barS then { s with fmt := s.fmt ++ [-1] } else (((s.mk1 w a c a' c').mk2 w s.names.length).mk3 w up s.names.length)
theorem WX_det {stmt : Stmt} {F : Store} {Q : Fl → Store → Prop} (h : WX g k σ env stmt fun fl σ' => fl = .next ∧ σ' = F) (q : Q .next F) : WX g k σ env stmt Q :=
 W.mono h fun b σ' ⟨e1, e2⟩ => by subst e1; subst e2; exact q
theorem Ok.fmtA {s : St} (ok : Ok s) {n : Int} (h : n = -1 ∨ (0 ≤ n ∧ n < s.names.length)) : Ok { s with fmt := s.fmt ++ [n] } :=
 ⟨ok.sp, ok.ki, ok.te, ok.at_, ok.aA, ok.pa, ok.ch, ok.cA, ok.pos, ok.opn, (fun x hx => by
  rcases List.mem_append.mp hx with hx | hx
  ·exact ok.fmt x hx
  ·rw [List.mem_singleton] at hx; subst hx; exact h), ok.up, ok.con⟩
theorem Big.fmtA {s : St} {b : Nat} (w : Big s b) (hb : b + 1 ≤ 1000000) {n : Int} : Big { s with fmt := s.fmt ++ [n] } (b + 1) :=
 let w' := w.up (Nat.le_succ b) hb
 ⟨w'.n, w'.opn, (by show (s.fmt ++ [n]).length ≤ b + 1; rw [List.length_append]; exact Nat.succ_le_succ w.fmt), w'.err, w'.own, w'.con, w'.att, w'.chi, w'.small⟩
theorem element_word {B : BA} {s : St} {wd : Str} (ok : Ok s) (w : Big s b) (hb : b + 1 ≤ 1000000) (q : ∀ a c a' c', Q (.int s.names.length) (AE B (s.mk1 wd a c a' c') ++ τ)) :
  Fn g (k + 2) 477 [.ref B.tr, .str (Bo wd), .str (BI wd), .tup [.tup [.str idS, .str wd]]] (AE B s ++ τ) Q :=
 Eo (attrs := [(idS, wd)]) ok w (by simp) hb
  (fun h a c => by have := q a c 0 0; unfold St.mk1 at this; rw [if_neg (by rw [h]; decide)] at this; exact this)
  (fun h a c a' c' => by have := q a c a' c'; unfold St.mk1 at this; rw [if_pos h] at this; exact this)
theorem head_some {w : Str} (h : 0 < w.length) : ∃ c, (seqIndex? 0 w.length).bind (w.cps[·]?) = some c ∧ ER w = ⟨#[c]⟩ := by
 have h' : 0 < w.cps.size := h
 refine ⟨w.cps[0], ?_, ?_⟩
 ·have e : seqIndex? 0 w.length = some 0 := by
   unfold seqIndex?
   simp [h]
  rw [e]
  show w.cps[0]? = _
  exact Array.getElem?_eq_getElem h'
 ·unfold ER
  rw [Array.getElem?_eq_getElem h']
theorem Fv {xs : List Str} {y : Str} {x : Int} {n : Nat} (h0 : 0 ≤ x) (h1 : x < n) (hn : xs.length = n) : (xs ++ [y]).getD x.toNat es = xs.getD x.toNat es := by
 rw [List.getD_eq_getElem?_getD, List.getD_eq_getElem?_getD, List.getElem?_append_left (by omega)]
theorem Fw {xs : List Str} {y : Str} {n : Nat} (hn : xs.length = n) : (xs ++ [y]).getD ((n : Int)).toNat es = y := by
 rw [Int.toNat_natCast, List.getD_eq_getElem?_getD, ← hn, List.getElem?_concat_length]; rfl
structure Rdy (seen : List Str) (s : St) : Prop where
 ok : Ok s
 opn : ∀ x ∈ s.opn, (s.sp x, s.na x) ∈ OW
 fmt : ∀ x ∈ s.fmt, x = -1 ∨ (s.sp x, s.na x) ∈ OF
 tx : Txt s
 con : ∀ p ∈ s.contents, 0 < p.1
 te : s.texts = List.replicate s.kinds.length es
 er : s.errors = []
 ow : s.owners = []
 fr : Ad ∈ seen → ∃ x ∈ s.opn, s.ishtml x Ad = true
theorem Rdy.addN {seen : List Str} {s : St} (r : Rdy seen s) {kind space name : Str} {attrs : List (Str × Str)} {a c : Addr} (h1 : space.length ≤ 100) (h2 : name.length ≤ 100) : Rdy seen (s.addN kind space name attrs a c) := by
 have e1 : ∀ x : Int, 0 ≤ x → x < s.names.length → (s.addN kind space name attrs a c).sp x = s.sp x := fun x h0 h1 => Fv h0 h1 r.ok.sp
 have e2 : ∀ x : Int, 0 ≤ x → x < s.names.length → (s.addN kind space name attrs a c).na x = s.na x := fun x h0 h1 => Fv h0 h1 rfl
 refine ⟨r.ok.addN .., fun x hx => ?_, fun x hx => ?_, ⟨fun x hx => ?_, fun x hx => ?_⟩, r.con, ?_, r.er, r.ow, fun h => ?_⟩
 ·obtain ⟨h0, h1⟩ := r.ok.opn x hx
  rw [e1 x h0 h1, e2 x h0 h1]; exact r.opn x hx
 ·rcases r.ok.fmt x hx with h | ⟨h0, h1⟩
  ·exact .inl h
  ·rw [e1 x h0 h1, e2 x h0 h1]; exact r.fmt x hx
 ·rcases List.mem_append.mp hx with hx | hx
  ·exact r.tx.n x hx
  ·rw [List.mem_singleton.mp hx]; exact h2
 ·rcases List.mem_append.mp hx with hx | hx
  ·exact r.tx.sp x hx
  ·rw [List.mem_singleton.mp hx]; exact h1
 ·show s.texts ++ [es] = List.replicate (s.kinds ++ [kind]).length es
  rw [List.length_append, List.length_singleton, List.replicate_succ', r.te]
 ·obtain ⟨x, hx, h⟩ := r.fr h
  obtain ⟨h0, h1⟩ := r.ok.opn x hx
  refine ⟨x, hx, ?_⟩
  unfold St.ishtml at h ⊢
  rw [e1 x h0 h1, e2 x h0 h1]; exact h
theorem Ok.putC {s : St} (ok : Ok s) {i j : Int} (h1 : 0 ≤ i ∧ i < s.names.length) (h2 : 0 ≤ j ∧ j < s.names.length) : Ok (s.putC i j) :=
 ⟨ok.sp, ok.ki, ok.te, ok.at_, ok.aA, ok.pa, ok.ch, ok.cA, ok.pos, ok.opn, ok.fmt, ok.up, fun p hp => by
  rcases putI_mem hp with hp | rfl
  ·exact ok.con p hp
  ·exact ⟨h1, h2⟩⟩
theorem Rdy.putC {seen : List Str} {s : St} (r : Rdy seen s) {i j : Int} (h1 : 0 < i ∧ i < s.names.length) (h2 : 0 ≤ j ∧ j < s.names.length) : Rdy seen (s.putC i j) :=
 ⟨r.ok.putC ⟨by omega, h1.2⟩ h2, r.opn, r.fmt, r.tx.of rfl rfl, fun p hp => by
  rcases putI_mem hp with hp | rfl
  ·exact r.con p hp
  ·exact h1.1, r.te, r.er, r.ow, r.fr⟩
theorem Rdy.fmtA {seen : List Str} {s : St} (r : Rdy seen s) {n : Int} (h : n = -1 ∨ ((0 ≤ n ∧ n < s.names.length) ∧ (s.sp n, s.na n) ∈ OF)) : Rdy seen { s with fmt := s.fmt ++ [n] } :=
 ⟨r.ok.fmtA (h.imp id (·.1)), r.opn, fun x hx => by
  rcases List.mem_append.mp hx with hx | hx
  ·exact r.fmt x hx
  ·rw [List.mem_singleton.mp hx]; exact h.imp id (·.2), r.tx.of rfl rfl, r.con, r.te, r.er, r.ow, r.fr⟩
theorem Rdy.ins {seen : List Str} {s : St} (r : Rdy seen s) {p n : Int} (h0 : 0 ≤ p) (h1 : p < n) (hn : n < s.names.length) : Rdy seen (s.ins p n) :=
 ⟨r.ok.ins h0 h1 hn, r.opn, r.fmt, r.tx.of rfl rfl, r.con, r.te, r.er, r.ow, r.fr⟩
theorem Rdy.pushO {seen : List Str} {s : St} (r : Rdy seen s) {n : Int} (h : 0 ≤ n ∧ n < s.names.length) (h2 : (s.sp n, s.na n) ∈ OW) : Rdy seen (s.setOpn (s.opn ++ [n])) :=
 ⟨⟨r.ok.sp, r.ok.ki, r.ok.te, r.ok.at_, r.ok.aA, r.ok.pa, r.ok.ch, r.ok.cA, r.ok.pos, fun x hx => by
  rcases List.mem_append.mp hx with hx | hx
  ·exact r.ok.opn x hx
  ·rw [List.mem_singleton.mp hx]; exact h, r.ok.fmt, r.ok.up, r.ok.con⟩, fun x hx => by
  rcases List.mem_append.mp hx with hx | hx
  ·exact r.opn x hx
  ·rw [List.mem_singleton.mp hx]; exact h2, r.fmt, r.tx.of rfl rfl, r.con, r.te, r.er, r.ow, fun q => let ⟨x, hx, e⟩ := r.fr q; ⟨x, List.mem_append_left _ hx, e⟩⟩
theorem Rdy.more {seen : List Str} {s : St} (r : Rdy seen s) {w : Str} (h : w = Ad → ∃ x ∈ s.opn, s.ishtml x Ad = true) : Rdy (seen ++ [w]) s :=
 ⟨r.ok, r.opn, r.fmt, r.tx, r.con, r.te, r.er, r.ow, fun q => by
  rcases List.mem_append.mp q with q | q
  ·exact r.fr q
  ·exact h (List.mem_singleton.mp q).symm⟩
theorem Rdy.setForm {seen : List Str} {s : St} (r : Rdy seen s) {x : Int} : Rdy seen (s.setForm x) :=
 ⟨r.ok.setForm, r.opn, r.fmt, r.tx.of rfl rfl, r.con, r.te, r.er, r.ow, r.fr⟩
theorem Rdy.setQuirks {seen : List Str} {s : St} (r : Rdy seen s) {x : Str} : Rdy seen (s.setQuirks x) :=
 ⟨r.ok.setQuirks, r.opn, r.fmt, r.tx.of rfl rfl, r.con, r.te, r.er, r.ow, r.fr⟩
theorem Big.putC {s : St} {b : Nat} (w : Big s b) (hb : b + 1 ≤ 1000000) {i j : Int} : Big (s.putC i j) (b + 1) :=
 let w' := w.up (Nat.le_succ b) hb
 ⟨w'.n, w'.opn, w'.fmt, w'.err, w'.own, Nat.le_trans (EF i j _) (Nat.succ_le_succ w.con), w'.att, w'.chi, w'.small⟩
theorem Big.pushO {s : St} {b : Nat} (w : Big s b) (hb : b + 1 ≤ 1000000) {n : Int} : Big (s.setOpn (s.opn ++ [n])) (b + 1) :=
 let w' := w.up (Nat.le_succ b) hb
 ⟨w'.n, (by show (s.opn ++ [n]).length ≤ b + 1; rw [List.length_append]; exact Nat.succ_le_succ w.opn), w'.fmt, w'.err, w'.own, w'.con, w'.att, w'.chi, w'.small⟩
noncomputable def AW : List Str := sL ["html", "body", "*b", "h1", "p", "-i", "span", "ul", "li", "div", "*a", "address", "dl", "dd", "svg:p", "svg:dt", "math:mrow", "template", "h5", "form", "svg:g", "|", "-b", "rt", "dt", "button", "h6", "td", "table", "svg:desc", "svg:li", "math:mi", "option", "object", "math:annotation-xml", "ol", "dialog"]
noncomputable def wordB (w : Str) : Bool := Nat.ble 1 w.length && (Nat.ble w.length 100 && (!(B6 w).isEmpty && (Nat.ble (B6 w).length 100 &&
 ((OW.contains (BI w, Bo w) || w == barS) && ((!C0 w || OF.contains (BI w, Bo w)) && (Nat.ble (BI w).length 100 && (Nat.ble (Bo w).length 100 && (Nat.ble (if C0 w then Dm w else w).length 100 && (!(w == Ad) || (ER w != zs "-" && (BI w == AU && (Bo w == Ad && !(w == barS)))))))))))))
theorem AW_word : AW.all wordB = true := by decide +kernel
structure Word (w : Str) : Prop where
 h0 : 0 < w.length
 h1 : w.length ≤ 100
 p0 : B6 w ≠ []
 p1 : (B6 w).length ≤ 100
 ow : w ≠ barS → (BI w, Bo w) ∈ OW
 off : C0 w = true → (BI w, Bo w) ∈ OF
 l1 : (BI w).length ≤ 100
 l2 : (Bo w).length ≤ 100
 tl : (if C0 w then Dm w else w).length ≤ 100
 fr : w = Ad → (ER w != zs "-") = true ∧ BI w = AU ∧ Bo w = Ad ∧ w ≠ barS
theorem word {w : Str} (h : w ∈ AW) : Word w := by
 have h := List.all_eq_true.mp AW_word w h
 unfold wordB at h
 simp only [Bool.and_eq_true, Bool.or_eq_true, Bool.not_eq_true', beq_iff_eq, beq_eq_false_iff_ne, List.contains_iff_mem] at h
 obtain ⟨h1, h2, h3, h4, h5, h6, h7, h8, h10, h9⟩ := h
 refine ⟨Nat.le_of_ble_eq_true h1, Nat.le_of_ble_eq_true h2, (fun e => by rw [e] at h3; cases h3), Nat.le_of_ble_eq_true h4, fun e => h5.resolve_right e, fun e => ?_, Nat.le_of_ble_eq_true h7, Nat.le_of_ble_eq_true h8, Nat.le_of_ble_eq_true h10, fun e => ?_⟩
 ·rcases h6 with h | h
  ·rw [h] at e; cases e
  ·exact h
 ·exact h9.resolve_left fun q => q e
theorem pool_AW : poolW.all (fun w => AW.contains w) = true := by decide +kernel
theorem mk1_len (s : St) (w : Str) (a c a' c' : Addr) : s.names.length + 1 ≤ (s.mk1 w a c a' c').names.length := by
 unfold St.mk1
 split
 ·show _ ≤ ((s.names ++ [_]) ++ [_]).length; simp
 ·show _ ≤ (s.names ++ [_]).length; simp
theorem Rdy.mk1 {seen : List Str} {s : St} (r : Rdy seen s) {w : Str} (h : Word w) {a c a' c' : Addr} : Rdy seen (s.mk1 w a c a' c') := by
 unfold St.mk1
 split
 ·have r1 := r.addN (kind := Ao) (space := BI w) (name := Bo w) (attrs := [(idS, w)]) (a := a) (c := c) h.l1 h.l2
  have r2 := r1.addN (kind := Da) (space := es) (name := es) (attrs := []) (a := a') (c := c') (Nat.zero_le _) (Nat.zero_le _)
  have hp := r.ok.pos
  have e : ((s.addN Ao (BI w) (Bo w) [(idS, w)] a c).addN Da es es [] a' c').names.length = s.names.length + 1 + 1 := by
   show ((s.names ++ [_]) ++ [_]).length = _; simp
  exact r2.putC (by rw [e]; omega) (by rw [e]; omega)
 ·exact r.addN h.l1 h.l2
theorem Big.mk1 {s : St} {b : Nat} (w : Big s b) (hb : b + 3 ≤ 1000000) {wd : Str} {a c a' c' : Addr} : Big (s.mk1 wd a c a' c') (b + 3) := by
 unfold St.mk1
 split
 ·exact ((w.addN (by omega) (by simp)).addN (by omega) (by simp)).putC (by omega)
 ·exact (w.addN (by omega) (by simp)).up (by omega) hb
theorem mk1_sp {s : St} (ok : Ok s) {w : Str} {a c a' c' : Addr} : (s.mk1 w a c a' c').sp s.names.length = BI w ∧ (s.mk1 w a c a' c').na s.names.length = Bo w := by
 unfold St.mk1
 split
 ·constructor
  ·show ((s.spaces ++ [_]) ++ [_]).getD _ es = _
   rw [Fv (n := s.names.length + 1) (by omega) (by omega) (by simp [ok.sp]), Fw ok.sp]
  ·show ((s.names ++ [_]) ++ [_]).getD _ es = _
   rw [Fv (n := s.names.length + 1) (by omega) (by omega) (by simp), Fw rfl]
 ·exact ⟨Fw ok.sp, Fw rfl⟩
theorem mk1_par {s : St} (ok : Ok s) {w : Str} {a c a' c' : Addr} : (s.mk1 w a c a' c').par s.names.length = -1 := by
 unfold St.mk1 St.par
 split
 ·show ((s.parents ++ [_]) ++ [_]).getD _ _ = _
  rw [List.getD_eq_getElem?_getD, List.getElem?_append_left (by simp [ok.pa]), ← ok.pa, Int.toNat_natCast, List.getElem?_concat_length]; rfl
 ·show (s.parents ++ [_]).getD _ _ = _
  rw [List.getD_eq_getElem?_getD, ← ok.pa, Int.toNat_natCast, List.getElem?_concat_length]; rfl
theorem mk1_con {s : St} (ok : Ok s) {w : Str} {a c a' c' : Addr} {x : Int} (h : x < s.names.length) : (s.mk1 w a c a' c').con x = s.con x := by
 unfold St.mk1
 split
 ·unfold St.con
  show ((IO (s.names.length : Int) ((s.names.length : Int) + 1) s.contents).find? (fun e => decide (e.1 = x))).map (fun e => e.2) = (s.contents.find? (fun e => decide (e.1 = x))).map (fun e => e.2)
  have : s.contents.any (fun e => decide (e.1 = (s.names.length : Int))) = false := List.any_eq_false.mpr fun e he => by
   have := (ok.con e he).1.2
   rw [decide_eq_true_eq]; omega
  unfold IO
  rw [this, if_neg (by decide), List.find?_append]
  cases s.contents.find? (fun e => decide (e.1 = x)) with
  | some p => rfl
  | none =>
   show (List.find? (fun e => decide (e.1 = x)) [((s.names.length : Int), (s.names.length : Int) + 1)]).map (fun e => e.2) = none
   rw [List.find?_cons, decide_eq_false (show ¬ (s.names.length : Int) = x by omega)]; rfl
 ·rfl
noncomputable def St.ready (s : St) (w : Str) (up : Int) (a c a' c' : Addr) : St := ((s.mk1 w a c a' c').mk2 w s.names.length).mk3 w up s.names.length
theorem Rdy.mk2 {seen : List Str} {s : St} (r : Rdy seen s) {w : Str} {n : Int} (h : C0 w = true → (0 ≤ n ∧ n < s.names.length) ∧ (s.sp n, s.na n) ∈ OF) : Rdy seen (s.mk2 w n) := by
 unfold St.mk2
 split
 ·exact r.fmtA (.inr (h (by assumption)))
 ·exact r
theorem Big.mk2 {s : St} {b : Nat} (w : Big s b) (hb : b + 1 ≤ 1000000) {wd : Str} {n : Int} : Big (s.mk2 wd n) (b + 1) := by
 unfold St.mk2
 split
 ·exact w.fmtA hb
 ·exact w.up (by omega) hb
theorem mk2_eq (s : St) (w : Str) (n : Int) : (s.mk2 w n).names = s.names ∧ (s.mk2 w n).spaces = s.spaces ∧ (s.mk2 w n).parents = s.parents ∧ (s.mk2 w n).contents = s.contents := by
 unfold St.mk2; split <;> exact ⟨rfl, rfl, rfl, rfl⟩
theorem up_ok {s : St} (ok : Ok s) {up : Int} (h : 0 ≤ up ∧ up < s.names.length) : 0 ≤ (s.con up).getD up ∧ (s.con up).getD up < s.names.length := by
 cases e : s.con up with
 | none => exact h
 | some c => exact St.con_ok ok e
theorem Rdy.mk3 {seen : List Str} {s : St} (r : Rdy seen s) {w : Str} {up n : Int} (hn : n < s.names.length) (hu : 0 ≤ (s.con up).getD up ∧ (s.con up).getD up < n) (h2 : w ≠ barS → (s.sp n, s.na n) ∈ OW) (hb : w ≠ barS) (hf : w = Ad → (ER w != zs "-") = true ∧ s.ishtml n Ad = true) : Rdy (seen ++ [w]) (s.mk3 w up n) := by
 unfold St.mk3
 split
 case isTrue h =>
  have r1 := (r.ins hu.1 hu.2 hn).pushO (n := n) ⟨by omega, hn⟩ (h2 hb)
  exact r1.more fun e => ⟨n, List.mem_append_right _ (.head _), (hf e).2⟩
 case isFalse h => exact r.more fun e => absurd (hf e).1 h
theorem Big.mk3 {s : St} {b : Nat} (w : Big s b) (hb : b + 2 ≤ 1000000) {wd : Str} {up n : Int} : Big (s.mk3 wd up n) (b + 2) := by
 unfold St.mk3
 split
 ·exact (w.ins (by omega)).pushO (by omega)
 ·exact w.up (by omega) hb
theorem mk3_len (s : St) (w : Str) (up n : Int) : (s.mk3 w up n).names = s.names := by unfold St.mk3; split <;> rfl
theorem Rdy.ready {seen : List Str} {s : St} (r : Rdy seen s) {w : Str} (h : Word w) (hb : w ≠ barS) {up : Int} (hu : 0 ≤ up ∧ up < s.names.length) {a c a' c' : Addr} : Rdy (seen ++ [w]) (s.ready w up a c a' c') ∧ s.names.length < (s.ready w up a c a' c').names.length := by
 have r1 := r.mk1 h (a := a) (c := c) (a' := a') (c' := c')
 have hl := mk1_len s w a c a' c'
 obtain ⟨e1, e2⟩ := mk1_sp r.ok (w := w) (a := a) (c := c) (a' := a') (c' := c')
 have e3 := mk1_con r.ok (w := w) (a := a) (c := c) (a' := a') (c' := c') hu.2
 have hup := up_ok r.ok hu
 unfold St.ready
 generalize s.mk1 w a c a' c' = s1 at r1 hl e1 e2 e3 ⊢
 have r2 := r1.mk2 (w := w) (n := (s.names.length : Int)) fun q => ⟨⟨by omega, by omega⟩, by rw [e1, e2]; exact h.off q⟩
 obtain ⟨f1, f2, f3, f4⟩ := mk2_eq s1 w s.names.length
 have g1 : (s1.mk2 w s.names.length).sp s.names.length = BI w := by unfold St.sp; rw [f2]; exact e1
 have g2 : (s1.mk2 w s.names.length).na s.names.length = Bo w := by unfold St.na; rw [f1]; exact e2
 have g3 : (s1.mk2 w s.names.length).con up = s.con up := by unfold St.con; rw [f4]; exact e3
 have g4 : (s1.mk2 w s.names.length).names.length = s1.names.length := by rw [f1]
 generalize s1.mk2 w s.names.length = s2 at r2 g1 g2 g3 g4 ⊢
 refine ⟨r2.mk3 (by omega) (by rw [g3]; exact hup) (fun q => by rw [g1, g2]; exact h.ow q) hb fun e => ?_, by rw [mk3_len]; omega⟩
 obtain ⟨i1, i2, i3, i4⟩ := h.fr e
 refine ⟨i1, ?_⟩
 unfold St.ishtml
 rw [g1, g2, i2, i3]
 have : ((s.names.length : Int) != -1) = true := by rw [bne_iff_ne]; omega
 rw [this]; decide
theorem ready_mid {seen : List Str} {s : St} (r : Rdy seen s) {w : Str} (h : Word w) {up : Int} (hu : 0 ≤ up ∧ up < s.names.length) {a c a' c' : Addr} : Ok ((s.mk1 w a c a' c').mk2 w s.names.length) ∧ (s.names.length : Int) < ((s.mk1 w a c a' c').mk2 w s.names.length).names.length ∧ ((s.mk1 w a c a' c').mk2 w s.names.length).par s.names.length = -1 ∧
  0 ≤ (((s.mk1 w a c a' c').mk2 w s.names.length).con up).getD up ∧ (((s.mk1 w a c a' c').mk2 w s.names.length).con up).getD up < s.names.length := by
 have r1 := r.mk1 h (a := a) (c := c) (a' := a') (c' := c')
 have hl := mk1_len s w a c a' c'
 obtain ⟨e1, e2⟩ := mk1_sp r.ok (w := w) (a := a) (c := c) (a' := a') (c' := c')
 have e3 := mk1_con r.ok (w := w) (a := a) (c := c) (a' := a') (c' := c') hu.2
 have e4 := mk1_par r.ok (w := w) (a := a) (c := c) (a' := a') (c' := c')
 have hup := up_ok r.ok hu
 generalize s.mk1 w a c a' c' = s1 at r1 hl e1 e2 e3 e4 ⊢
 have r2 := r1.mk2 (w := w) (n := (s.names.length : Int)) fun q => ⟨⟨by omega, by omega⟩, by rw [e1, e2]; exact h.off q⟩
 obtain ⟨f1, f2, f3, f4⟩ := mk2_eq s1 w s.names.length
 refine ⟨r2.ok, by rw [f1]; omega, ?_, ?_⟩
 ·unfold St.par at e4 ⊢; rw [f3]; exact e4
 ·have : (s1.mk2 w s.names.length).con up = s.con up := by unfold St.con at e3 ⊢; rw [f4]; exact e3
  rw [this]; exact hup
theorem Big.ready {s : St} {b : Nat} (w : Big s b) (hb : b + 6 ≤ 1000000) {wd : Str} {up : Int} {a c a' c' : Addr} : Big (s.ready wd up a c a' c') (b + 6) :=
 ((w.mk1 (by omega)).mk2 (by omega)).mk3 (by omega)
theorem rdy_s0 (ta tc : Addr) : Rdy [] (s0 ta tc) :=
 ⟨ok_s0 ta tc, (fun x h => by cases h), (fun x h => by cases h), ⟨(fun x h => by rw [List.mem_singleton.mp h]; decide), (fun x h => by rw [List.mem_singleton.mp h]; decide)⟩, (fun x h => by cases h), rfl, rfl, rfl, (fun h => by cases h)⟩
end
end Mine
namespace Mine
section
variable {g : G} {k : Nat} {τ σ R : Store} {Q : V → Store → Prop} {b : Nat} {L₀ : Addr} {m₀ : Loc} {env : Env}
noncomputable def qS (q : Int) : Str := if q = 0 then zs "no-quirks" else if q = 1 then zs "limited-quirks" else DM
noncomputable def pI (p : Int → Bool) : V → Bool
 | .int x => p x
 | _ => false
theorem filter_ints (p : Int → Bool) (xs : List Int) : (xs.map V.int).filter (pI p) = (xs.filter p).map V.int := by
 induction xs with
 | nil => rfl
 | cons x xs ih => simp only [List.map_cons, List.filter_cons, ih, pI]; cases p x <;> rfl
theorem comp_ints_if {L : Addr} {m : Loc} {elt c : Expr} {x : Str} {scope : Scope} {cl : List (Str × Addr)} {l : Addr} {xs : List Int} (p : Int → Bool) (hm : (l, Cell.list (xs.map V.int)) ∈ Fm R L m τ) (hz : xs.length ≤ sizeLine)
  (turn : ∀ d ∈ xs, ∀ C τ', WT g k (Fm (Fm R L m τ) C [(x, .int d)] τ') (compEnvC scope cl C env) c fun b σ' => b = p d ∧ σ' = Fm (Fm R L m τ) C [(x, .int d)] τ')
  (turn2 : ∀ d C τ', WE g k (Fm (Fm R L m τ) C [(x, .int d)] τ') (compEnvC scope cl C env) elt fun d' σ' => d' = .int d ∧ σ' = Fm (Fm R L m τ) C [(x, .int d)] τ')
  (q : ∀ a, Q (.ref a) (Fm R L m ((a, .list ((xs.filter p).map V.int)) :: τ))) : Cg g k (Fm R L m τ) env elt x [c] scope cl (.ref l) Q := by
 refine Fh (pI p) id hm (by rw [List.length_map]; exact hz) (fun d hd C τ' => ?_) (fun d hd _ C τ' => ?_) (fun a => ?_)
 ·obtain ⟨x, hx, rfl⟩ := List.mem_map.mp hd; exact turn x hx C τ'
 ·obtain ⟨x, _, rfl⟩ := List.mem_map.mp hd; exact turn2 x C τ'
 ·rw [List.map_id, filter_ints]; exact q a
theorem fm_fm (R : Store) (L : Addr) (m : Loc) (τ : Store) (C : Addr) (m' : Loc) (τ' : Store) : Fm (Fm R L m τ) C m' τ' = R ++ ((L, .ns m) :: (τ ++ (C, .ns m') :: τ')) := List.append_assoc ..
theorem push_specO {B : BA} {s : St} {n : Int} (hb : s.opn.length ≤ 1000000) (q : Q .none (AE B (s.setOpn (s.opn ++ [n])) ++ τ)) : Fn g (k + 1) 70 [.ref B.st, .int n] (AE B s ++ τ) Q := push_spec hb q
inductive RdI (g : G) (B : BA) (wl : Addr) (ws : List Str) (form quirks : Int) (T : Store) (it : Addr) (I : It g it) (i : Nat) (R' : Store) (m : Loc) (τ' : Store) : Prop
 | mk (s : St) (up : Int) (X : Store) (h0 : I = itL g it wl (ws.map V.str)) (h1 : i ≤ ws.length) (h2 : R' = AE B s) (h3 : m = [(zs "up", .int up), (zs "builder", .ref B.bd), (zs "quirks", .int quirks), (zs "form", .int form), (zs "words", .ref wl)]) (h4 : τ' = X ++ T) (h5 : Rdy (ws.take i) s) (h6 : 0 ≤ up ∧ up < s.names.length) (h7 : Big s (6 * i + 1)) : RdI g B wl ws form quirks T it I i R' m τ'
theorem Iy {wl : Addr} {ws : List Str} {form quirks : Int} (hm : (wl, Cell.list (ws.map V.str)) ∈ Fm R L₀ m₀ τ) (hwl : ws.length ≤ 1000) (hws : ∀ w ∈ ws, w ∈ AW) (hq : quirks = 0 ∨ quirks = 1 ∨ quirks = 2)
  (q : ∀ (B : BA) (s : St), Rdy ws s → Big s (6 * ws.length + 8) → s.quirks = qS quirks → Q (.ref B.bd) (AE B s ++ Fm R L₀ m₀ τ)) : Fn g (k + 6) 673 [.ref wl, .int form, .int quirks] (Fm R L₀ m₀ τ) Q := by
 refine Ch ?_
 refine CT [(zs "quirks", .int quirks), (zs "form", .int form), (zs "words", .ref wl)] [(zs "quirks", .int quirks), (zs "form", .int form), (zs "words", .ref wl)] (fun L => [(L + 1, .cell none)]) (lk_law_ready _) (cd_law_ready _) (fun h vs i => by cases i with | cons i1 i => cases i with | cons i2 i => cases i with | cons i3 i => cases i; exact ⟨_, rfl, .cons i3 (.cons i2 (.cons i1 .nil)), by kernel_rfl⟩) rfl (fun L => rfl) (by decide +kernel) (fun L => by kernel_rfl) (fun L => ?_) (by kernel_rfl) (by kernel_rfl) (by kernel_rfl)
 conv in stB _ => whnf
 conv in stS _ => whnf
 refine A6 ?_
 refine AD ?_
 refine AJ (gl_Builder _) (kp_Builder _) ?_
 refine A5 ?_
 refine Fk fun rl => ?_
 refine A7 ?_
 refine HH (k := k + 4) (mk_Builder _) fun x dx => ?_
 refine Fu fun B ta tc hB => ?_
 refine ⟨rfl, ?_⟩
 rw [← hB]
 refine AF ?_
 refine A6 ?_
 refine AD ?_
 refine AC ?_
 refine A4 rfl ?_
 refine CE ?_
 refine O_sc2 rfl ?_
 refine A6 ?_
 refine AD ?_
 refine AL ?_
 refine AF ?_
 refine A6 ?_
 refine Dl (L := L) (RdI g B wl ws form quirks ((B.pending, Cell.list []) :: (rl, Cell.idict []) :: (L + 1, Cell.cell (some (V.ref B.tr))) :: Fm R L₀ m₀ τ)) ?_ ?_ ?_ ?_
 ·refine A4 rfl ?_
  exact ⟨_, _, _, _, rfl, .refl _, CQ (List.mem_append_right _ (.tail _ (.tail _ (.tail _ (.tail _ hm))))) fun it => ⟨s0 ta tc, 0, [], rfl, Nat.zero_le _, rfl, rfl, rfl, rdy_s0 _ _, ⟨Int.le_refl 0, Int.zero_lt_one⟩, big_s0 _ _⟩⟩
 ·rintro it I i R' m τ' hlt ⟨s, up, X, rfl, hi, rfl, rfl, rfl, rd, hu, w⟩
  have hlt' : i < ws.length := by have h : i < (ws.map V.str).length := hlt; rwa [List.length_map] at h
  have ei : (itL g it wl (ws.map V.str)).item i = .str ws[i] := by show (ws.map V.str).getD i .none = _; rw [List.getD_eq_getElem?_getD, List.getElem?_map, List.getElem?_eq_getElem hlt']; rfl
  rw [ei]
  have ok := rd.ok
  have hW := word (hws _ (List.getElem_mem hlt'))
  have etk : ws.take (i + 1) = ws.take i ++ [ws[i]] := by rw [List.take_add_one, List.getElem?_eq_getElem hlt']; rfl
  rw [show Big s (6 * i + 1) = Big s (6 * i + 1) from rfl] at w
  generalize ws[i] = wd at hW etk ⊢
  have hw0 := hW.h0
  have hw1 := hW.h1
  have hw2 := hW.p0
  have hw3 := hW.p1
  obtain ⟨hc, hcs, hch⟩ := head_some hw0
  refine AT ?_
  refine AF ?_
  refine A6 ?_
  refine AY ?_
  refine AB ?_
  refine A4 rfl ?_
  refine A9 ?_
  refine B9 ?_
  refine ⟨_, rfl, ?_⟩
  refine AQ (fun h => ?_) (fun h => ?_)
  ·refine A6 ?_
   refine AI ?_
   refine AH ?_
   refine AC ?_
   refine AC ?_
   refine A4 rfl ?_
   refine Bj ?_
   refine Bf ?_
   refine Aq (TyOf.list (CD _)) F.plainAttrs_list F.slot_list_append F.type_list_append ?_
   refine A5 ?_
   refine AX ?_
   refine AL ?_
   refine B8 ?_
   refine A7 ?_
   refine Aa (Hn (s.fmt ++ [-1]) (by simp)) (by rw [List.length_map]; exact line_le w.fmt w.small) ?_
   refine ⟨rfl, ?_⟩
   refine A6 ?_
   refine WX_Continue ?_
   refine ⟨_, [(zs "up", .int up), (zs "builder", .ref B.bd), (zs "quirks", .int quirks), (zs "form", .int form), (zs "words", .ref wl)], _, _, rfl, .cons (by kernel_rfl) (.cons (by kernel_rfl) (.cons (by kernel_rfl) (.cons (by kernel_rfl) (.cons (by kernel_rfl) .nil)))), { s with fmt := s.fmt ++ [-1] }, up, X, rfl, hlt', rfl, rfl, rfl, ?_, ?_, ?_⟩
   ·rw [etk]
    exact (rd.fmtA (.inl rfl)).more fun e => absurd (e.symm.trans (eq_of_beq h)) (by decide)
   ·exact hu
   ·exact (w.fmtA (by omega)).up (by omega) (by omega)
  ·refine A8 ?_
   refine A6 ?_
   refine AD ?_
   refine AH ?_
   refine WE_det (d := .str (if C0 wd then Dm wd else wd)) ?_ ?_
   ·refine E3 ?_
    refine AB ?_
    refine AO ?_
    refine A4 rfl ?_
    refine AL ?_
    refine O_chr (c := hc) (by decide) hcs ?_
    rw [← hch]
    (refine Ac (xs := sL ["*", "-"]) ?ha ?hb ?_; (case ha => kernel_rfl); (case hb => kernel_rfl))
    refine BK ?_
    refine ⟨_, rfl, ?_⟩
    refine AQ (fun h1 => ?_) (fun h1 => ?_)
    ·rw [if_pos (show C0 wd = true from h1)]
     refine BX ?_
     refine A4 rfl ?_
     refine Bs ?_
     refine AL ?_
     refine Br ?_
     refine SlO_tail (by omega) ?_
     exact ⟨rfl, rfl⟩
    ·rw [if_neg (show ¬ C0 wd = true by rw [show C0 wd = false from h1]; decide)]
     refine A4 rfl ?_
     refine ⟨rfl, ?_⟩
     rfl
   ·refine Aq TyOf.str F.plainAttrs_str F.slot_str_split F.type_str_split ?_
    refine A5 ?_
    refine A9 ?_
    refine A7 ?_
    refine Cl_splitC rfl ?hx fun kc => ?_
    case hx => exact Nat.le_trans hW.tl (by decide)
    rw [show Txt.split (if C0 wd = true then Dm wd else wd) (zs ":") = B6 wd from rfl]
    refine AF ?_
    refine A6 ?_
    refine AD ?_
    refine AH ?_
    refine Al rfl (by walk_at "mm") ?_
    refine Ag (DQ _) (Bw _) (Ce _) rfl ?_
    refine A5 ?_
    refine AO ?_
    refine A4 rfl ?_
    refine AX ?_
    refine AL ?_
    refine B8 ?_
    refine FG (d := .str (Bo wd)) (by walk_at "mm") (lastS hw2) ?_
    refine A5 ?_
    refine WE_det (d := .str (BI wd)) ?_ ?_
    ·refine E3 ?_
     refine AB ?_
     refine Ar (BN _) rfl (by decide) ?_
     refine A5 ?_
     refine A4 rfl ?_
     refine A7 ?_
     refine BT (ds := (B6 wd).map V.str) (by walk_at "mm") (by rw [List.length_map]; exact line_le hw3 (by decide)) ?_
     rw [List.length_map]
     refine AL ?_
     refine CX ?_
     refine ⟨_, rfl, ?_⟩
     refine AQ (fun h1 => ?_) (fun h1 => ?_)
     ·have h1' : ((B6 wd).length == 2) = true := by
       have h2 : ((B6 wd).length : Int) = 2 := eq_of_beq h1
       rw [beq_iff_eq]; omega
      rw [show BI wd = (B6 wd).headD es from if_pos h1']
      refine AO ?_
      refine A4 rfl ?_
      refine AL ?_
      refine Ay (ds := (B6 wd).map V.str) (d := .str ((B6 wd).headD es)) (by walk_at "mm") (by decide) (by decide) ?_ ?_
      ·cases e : B6 wd with
       | nil => exact absurd e hw2
       | cons p r => rfl
      ·exact ⟨rfl, rfl⟩
     ·have h1' : ((B6 wd).length == 2) = false := by
       have h2 : ((B6 wd).length : Int) ≠ 2 := by intro e; rw [e] at h1; cases h1
       rw [beq_eq_false_iff_ne]; omega
      rw [show BI wd = AU from if_neg (by rw [h1']; decide)]
      refine A9 ?_
      refine ⟨rfl, ?_⟩
      rfl
    refine A5 ?_
    refine Ah ?_
    refine A5 ?_
    refine Ah ?_
    refine A5 ?_
    refine A9 ?_
    refine A5 ?_
    refine A4 rfl ?_
    refine A7 ?_
    refine ⟨sz_lit rfl, ?_⟩
    refine A7 ?_
    refine ⟨sz_lit rfl, ?_⟩
    refine A7 ?_
    refine element_word ok w (by omega) fun a c a' c' => ?_
    refine AF ?_
    refine A6 ?_
    refine WX_det (F := Fm (AE B ((s.mk1 wd a c a' c').mk2 wd s.names.length)) L [(zs "node", .int s.names.length), (zs "kind", .ref kc), (zs "word", .str wd), (zs "up", .int up), (zs "builder", .ref B.bd), (zs "quirks", .int quirks), (zs "form", .int form), (zs "words", .ref wl)] ((kc, Cell.list ((B6 wd).map V.str)) :: ((itL g it wl (ws.map V.str)).own (i + 1) ++ (X ++ (B.pending, Cell.list []) :: (rl, Cell.idict []) :: (L + 1, Cell.cell (some (V.ref B.tr))) :: Fm R L₀ m₀ τ)))) ?_ ?_
    ·refine AY ?_
     refine AB ?_
     refine AO ?_
     refine A4 rfl ?_
     refine AL ?_
     refine O_chr (c := hc) (by decide) hcs ?_
     rw [← hch]
     (refine Ac (xs := sL ["*", "-"]) ?ha ?hb ?_; (case ha => kernel_rfl); (case hb => kernel_rfl))
     refine BK ?_
     refine ⟨_, rfl, ?_⟩
     refine AQ (fun h1 => ?_) (fun h1 => ?_)
     ·rw [show ∀ t : St, t.mk2 wd s.names.length = { t with fmt := t.fmt ++ [(s.names.length : Int)] } from fun t => if_pos (show C0 wd = true from h1)]
      refine A6 ?_
      refine AI ?_
      refine AH ?_
      refine AC ?_
      refine AC ?_
      refine A4 rfl ?_
      refine Bj ?_
      refine Bf ?_
      refine Aq (TyOf.list (CD _)) F.plainAttrs_list F.slot_list_append F.type_list_append ?_
      refine A5 ?_
      refine A4 rfl ?_
      refine A7 ?_
      refine Aa (Hn ((s.mk1 wd a c a' c').fmt ++ [(s.names.length : Int)]) (by simp)) (by rw [List.length_map]; exact line_le (w.mk1 (by omega)).fmt (w.mk1 (wd := wd) (a := a) (c := c) (a' := a') (c' := c') (by omega)).small) ?_
      refine ⟨rfl, ?_⟩
      refine A8 ?_
      refine ⟨rfl, ?_⟩
      rfl
     ·rw [show ∀ t : St, t.mk2 wd s.names.length = t from fun t => if_neg (show ¬ C0 wd = true by rw [show C0 wd = false from h1]; decide)]
      refine A8 ?_
      refine ⟨rfl, ?_⟩
      rfl
    refine A6 ?_
    refine AY ?_
    refine AB ?_
    refine AO ?_
    refine A4 rfl ?_
    refine AL ?_
    refine O_chr (c := hc) (by decide) hcs ?_
    rw [← hch]
    refine A9 ?_
    refine Ej ?_
    refine ⟨_, rfl, ?_⟩
    obtain ⟨ok2, n2, p2, u0, u1⟩ := ready_mid rd hW hu (a := a) (c := c) (a' := a') (c' := c')
    have w2 : Big ((s.mk1 wd a c a' c').mk2 wd s.names.length) (6 * i + 5) := (w.mk1 (by omega)).mk2 (by omega)
    have hnb : wd ≠ barS := fun e => by rw [show (wd == zs "|") = true from by rw [e]; rfl] at h; cases h
    obtain ⟨rF, lF⟩ := rd.ready hW hnb hu (a := a) (c := c) (a' := a') (c' := c')
    have wF : Big (s.ready wd up a c a' c') (6 * i + 7) := w.ready (by omega)
    refine AQ (fun h1 => ?_) (fun h1 => ?_)
    ·have eS : s.ready wd up a c a' c' = (((s.mk1 wd a c a' c').mk2 wd s.names.length).ins ((((s.mk1 wd a c a' c').mk2 wd s.names.length).con up).getD up) s.names.length).setOpn (((s.mk1 wd a c a' c').mk2 wd s.names.length).opn ++ [(s.names.length : Int)]) := if_pos h1
     refine A6 ?_
     refine AI ?_
     refine AH ?_
     refine Al rfl (by walk_at "mm") ?_
     refine Ag (DQ _) (Bw _) (E8 _) rfl ?_
     refine A5 ?_
     refine AH ?_
     refine AC ?_
     refine Al rfl (by walk_at "mm") ?_
     refine Bq ?_
     refine Aq (TyOf.idict (CR _)) F.plainAttrs_dict F.slot_dict_get F.type_dict_get ?_
     refine A5 ?_
     refine A4 rfl ?_
     refine A5 ?_
     refine A4 rfl ?_
     refine A7 ?_
     refine Cl_getI (CR _) ?_
     have eu : ((atI (((s.mk1 wd a c a' c').mk2 wd s.names.length).contents.map dcV) up).getD (.int up)) = .int ((((s.mk1 wd a c a' c').mk2 wd s.names.length).con up).getD up) := by
      rw [atI_dc]
      show ((((s.mk1 wd a c a' c').mk2 wd s.names.length).con up).map V.int).getD (.int up) = _
      cases ((s.mk1 wd a c a' c').mk2 wd s.names.length).con up <;> rfl
     rw [eu]
     refine A5 ?_
     refine A4 rfl ?_
     refine A7 ?_
     refine GZ ok2 w2 u0 u1 n2 p2 ?_
     refine ⟨rfl, ?_⟩
     refine A6 ?_
     refine AI ?_
     refine AH ?_
     refine AC ?_
     refine A4 rfl ?_
     refine Ai ?_
     refine Ag (Cd _) (Ba _) (DF _) rfl ?_
     refine A5 ?_
     refine A4 rfl ?_
     refine A7 ?_
     refine push_specO (Nat.le_trans w2.opn w2.small) ?_
     rw [show (((s.mk1 wd a c a' c').mk2 wd s.names.length).ins ((((s.mk1 wd a c a' c').mk2 wd s.names.length).con up).getD up) s.names.length).opn = ((s.mk1 wd a c a' c').mk2 wd s.names.length).opn from rfl, ← eS]
     refine ⟨rfl, ?_⟩
     refine W.own1 ?_
     refine A6 ?_
     refine AD ?_
     refine A4 rfl ?_
     refine AF ?_
     refine A8 ?_
     refine A8 ?_
     refine ⟨_, [(zs "up", .int s.names.length), (zs "builder", .ref B.bd), (zs "quirks", .int quirks), (zs "form", .int form), (zs "words", .ref wl)], _, (kc, Cell.list ((B6 wd).map V.str)) :: (X ++ (B.pending, Cell.list []) :: (rl, Cell.idict []) :: (L + 1, Cell.cell (some (V.ref B.tr))) :: Fm R L₀ m₀ τ), rfl, .cons (by kernel_rfl) (.cons (by kernel_rfl) (.cons (by kernel_rfl) (.cons (by kernel_rfl) (.cons (by kernel_rfl) .nil)))), s.ready wd up a c a' c', s.names.length, (kc, Cell.list ((B6 wd).map V.str)) :: X, rfl, hlt', rfl, rfl, rfl, ?_, ⟨by omega, by omega⟩, wF⟩
     rw [etk]; exact rF
    ·rw [show s.ready wd up a c a' c' = (s.mk1 wd a c a' c').mk2 wd s.names.length from if_neg (by rw [h1]; decide)] at rF lF wF
     refine W.own1 ?_
     refine A8 ?_
     refine A8 ?_
     refine ⟨_, [(zs "up", .int up), (zs "builder", .ref B.bd), (zs "quirks", .int quirks), (zs "form", .int form), (zs "words", .ref wl)], _, (kc, Cell.list ((B6 wd).map V.str)) :: (X ++ (B.pending, Cell.list []) :: (rl, Cell.idict []) :: (L + 1, Cell.cell (some (V.ref B.tr))) :: Fm R L₀ m₀ τ), rfl, .cons (by kernel_rfl) (.cons (by kernel_rfl) (.cons (by kernel_rfl) (.cons (by kernel_rfl) (.cons (by kernel_rfl) .nil)))), (s.mk1 wd a c a' c').mk2 wd s.names.length, up, (kc, Cell.list ((B6 wd).map V.str)) :: X, rfl, hlt', rfl, rfl, rfl, ?_, ⟨hu.1, by omega⟩, wF⟩
     rw [etk]; exact rF
 ·rintro it I i R' m τ' ⟨s, up, X, rfl, hi, rfl, rfl, rfl, rd, hu, w⟩
  refine ⟨by show i ≤ (ws.map V.str).length; rw [List.length_map]; exact hi, fun m' => ?_⟩
  exact List.mem_append_right _ (.tail _ (List.mem_append_right _ (.tail _ (.tail _ (.tail _ hm)))))
 ·rintro it I R' m m' τ' ⟨s, up, X, rfl, hi, rfl, rfl, rfl, rd, hu, w⟩ hsub
  have en : It.n (g := g) (it := it) (itL g it wl (ws.map V.str)) = ws.length := List.length_map ..
  rw [en] at rd w
  rw [List.take_length] at rd
  have t6 : ∀ (s : St) (X : Store) (m : Loc), Rdy ws s → Big s (6 * ws.length + 8) → Sub [(zs "builder", V.ref B.bd), (zs "quirks", .int quirks)] m → W g (k + 5) IsFl (Fm (AE B s) L m (X ++ Fm R L₀ m₀ τ)) (execs ((stB (tS 49)).drop 6) (envOfC (zs "_law_ready") (stS (tS 49)) L 673 (.ref 672))) (BC Q) := by
   intro s X m rd w hm
   refine W.pre ?_ (fun h S => S.weak hm)
   conv in stB _ => whnf
   conv in stS _ => whnf
   show WS g (k + 5) _ _ [_, _] _
   refine A6 ?_
   refine AK ?_
   refine AO ?_
   (refine Ac (xs := sL ["no-quirks", "limited-quirks", "quirks"]) ?ha ?hb ?_; (case ha => kernel_rfl); (case hb => kernel_rfl))
   refine A4 rfl ?_
   have fin : BC Q (.ret (.ref B.bd)) (Fm (AE B (s.setQuirks (qS quirks))) L [(zs "builder", V.ref B.bd), (zs "quirks", .int quirks)] (X ++ Fm R L₀ m₀ τ)):=
    ⟨_, _, List.Sublist.append_left (List.Sublist.cons _ (List.sublist_append_right _ _)) _, .refl _, q B _ rd.setQuirks w.setQuirks rfl⟩
   rcases hq with rfl | rfl | rfl
   ·refine CA 0 rfl rfl ?_
    refine A4 rfl ?_
    refine F1 ?_
    refine A6 ?_
    refine AG ?_
    refine A4 rfl ?_
    exact fin
   ·refine CA 1 rfl rfl ?_
    refine A4 rfl ?_
    refine F1 ?_
    refine A6 ?_
    refine AG ?_
    refine A4 rfl ?_
    exact fin
   ·refine CA 2 rfl rfl ?_
    refine A4 rfl ?_
    refine F1 ?_
    refine A6 ?_
    refine AG ?_
    refine A4 rfl ?_
    exact fin
  have t5 : ∀ (s : St) (X : Store) (m : Loc), Rdy ws s → Big s (6 * ws.length + 8) → (L + 1, Cell.cell (some (V.ref B.tr))) ∈ X → Sub [(zs "builder", V.ref B.bd), (zs "quirks", .int quirks), (zs "form", .int form), (zs "words", .ref wl)] m → W g (k + 5) IsFl (Fm (AE B s) L m (X ++ Fm R L₀ m₀ τ)) (execs ((stB (tS 49)).drop 5) (envOfC (zs "_law_ready") (stS (tS 49)) L 673 (.ref 672))) (BC Q) := by
   intro s X m rd w hX hsb
   refine W.pre ?_ (fun h S => S.weak hsb)
   conv in stB _ => whnf
   conv in stS _ => whnf
   show WS g (k + 5) _ _ [_, _, _] _
   have sb : Sub [(zs "builder", V.ref B.bd), (zs "quirks", .int quirks)] [(zs "builder", V.ref B.bd), (zs "quirks", .int quirks), (zs "form", .int form), (zs "words", .ref wl)] := .cons (by kernel_rfl) (.cons (by kernel_rfl) .nil)
   refine A6 ?_
   refine AY ?_
   refine DS (c := form == 2 && ws.contains Ad) ?_ (fun h => ?_) (fun h => ?_)
   ·refine BO ?_
    refine AB ?_
    refine A4 rfl ?_
    refine AL ?_
    refine CX ?_
    refine ⟨_, rfl, ?_⟩
    refine AQ (fun h => ?_) (fun h => ?_)
    ·rw [h, Bool.true_and]
     refine Bi ?_
     refine AB ?_
     refine A9 ?_
     refine A4 rfl ?_
     refine Et (xs := ws) (List.mem_append_right _ (.tail _ (List.mem_append_right _ hm))) ?_
     refine ⟨_, rfl, ?_⟩
     refine ⟨rfl, ?_⟩
     rfl
    ·exact ⟨by rw [h, Bool.false_and], rfl⟩
   ·refine A6 ?_
    refine AK ?_
    refine AO ?_
    refine Cp (cl := _) rfl (by decide) rfl (by decide) rfl ?_
    refine AC ?_
    refine AC ?_
    refine A4 rfl ?_
    refine Ai ?_
    refine B2 ?_
    refine comp_ints_if (fun x => s.ishtml x Ad) (BQ _) (line_le w.opn w.small) (fun x hx C τ' => ?_) (fun x C τ' => ?_) (fun a => ?_)
    ·refine B7 ?_
     refine AH ?_
     refine Al rfl (List.mem_append_left _ (List.mem_append_right _ (.tail _ (List.mem_append_left _ hX)))) ?_
     refine Ag (List.mem_append_left _ (DQ _)) (List.mem_append_left _ (Bw _)) (Ds _) rfl ?_
     refine A5 ?_
     refine A4 rfl ?_
     refine A5 ?_
     refine A9 ?_
     refine A7 ?_
     rw [fm_fm]
     refine Fb rd.ok w (.inr (rd.ok.opn x hx)) ?_
     refine An ?_
     refine ⟨rfl, ?_⟩
     rfl
    ·refine A4 rfl ?_
     refine ⟨rfl, ?_⟩
     rfl
    ·obtain ⟨x, hx, e⟩ := rd.fr (List.contains_iff_mem.mp (Bool.and_eq_true_iff.mp h).2)
     cases ef : s.opn.filter (fun x => s.ishtml x Ad) with
     | nil => exact absurd e (List.filter_eq_nil_iff.mp ef x hx)
     | cons y ys =>
      refine AL ?_
      refine Ay (ds := ((y :: ys).map V.int)) (d := .int y) (by walk_at "mm") (by decide) (by decide) rfl ?_
      refine A4 rfl ?_
      refine IR ?_
      refine A8 ?_
      refine t6 _ ((a, .list ((y :: ys).map V.int)) :: X) _ rd.setForm w.setForm sb
   ·refine A8 ?_
    exact t6 s X _ rd w sb
  refine W.pre ?_ (fun h S => S.weak hsub)
  have sb : ∀ up, Sub [(zs "builder", V.ref B.bd), (zs "quirks", .int quirks), (zs "form", .int form), (zs "words", .ref wl)] [(zs "up", .int up), (zs "builder", V.ref B.bd), (zs "quirks", .int quirks), (zs "form", .int form), (zs "words", .ref wl)] := fun up => .cons (by kernel_rfl) (.cons (by kernel_rfl) (.cons (by kernel_rfl) (.cons (by kernel_rfl) .nil)))
  have eX : X ++ (B.pending, Cell.list []) :: (rl, Cell.idict []) :: (L + 1, Cell.cell (some (V.ref B.tr))) :: Fm R L₀ m₀ τ = (X ++ [(B.pending, Cell.list []), (rl, Cell.idict []), (L + 1, Cell.cell (some (V.ref B.tr)))]) ++ Fm R L₀ m₀ τ := (List.append_assoc X [(B.pending, Cell.list []), (rl, Cell.idict []), (L + 1, Cell.cell (some (V.ref B.tr)))] (Fm R L₀ m₀ τ)).symm
  rw [eX]
  have hX : (L + 1, Cell.cell (some (V.ref B.tr))) ∈ X ++ [(B.pending, Cell.list []), (rl, Cell.idict []), (L + 1, Cell.cell (some (V.ref B.tr)))] := List.mem_append_right _ (.tail _ (.tail _ (.head _)))
  refine A6 ?_
  refine AY ?_
  refine AB ?_
  refine A4 rfl ?_
  refine AL ?_
  refine CX ?_
  refine ⟨_, rfl, ?_⟩
  refine AQ (fun h1 => ?_) (fun h1 => ?_)
  ·refine A6 ?_
   refine AK ?_
   refine AH ?_
   refine Al rfl (by walk_at "mm") ?_
   refine Ag (DQ _) (Bw _) (Ce _) rfl ?_
   refine A5 ?_
   refine A9 ?_
   refine A7 ?_
   refine element_spec2 rd.ok w (by omega) (by decide) fun a c => ?_
   refine A4 rfl ?_
   refine IR ?_
   refine A6 ?_
   refine AI ?_
   refine AH ?_
   refine Al rfl (by walk_at "mm") ?_
   refine Ag (DQ _) (Bw _) (E8 _) rfl ?_
   refine A5 ?_
   refine AL ?_
   refine A5 ?_
   refine AC ?_
   refine A4 rfl ?_
   refine Cy ?_
   refine A7 ?_
   have r1 := (rd.addN (kind := Ao) (space := AU) (name := zs "form") (attrs := []) (a := a) (c := c) (by decide) (by decide)).setForm (x := s.names.length)
   have w1 : Big ((s.addN Ao AU (zs "form") [] a c).setForm s.names.length) (6 * ws.length + 2) := (w.addN (by omega) (by simp)).setForm
   have hl : ((s.names.length : Nat) : Int) < ((s.addN Ao AU (zs "form") [] a c).setForm s.names.length).names.length := by
    show _ < (((s.names ++ [_]).length : Nat) : Int); rw [List.length_append, List.length_singleton]; omega
   have hp : (0 : Int) < s.names.length := by have := rd.ok.pos; omega
   refine GZ r1.ok w1 (Int.le_refl 0) hp hl (St.par_new s rd.ok (name := zs "form") (attrs := []) (a := a) (c := c)) ?_
   refine ⟨rfl, ?_⟩
   refine A8 ?_
   exact t5 _ _ _ (r1.ins (Int.le_refl 0) hp hl) ((w1.ins (by omega)).up (by omega) (by omega)) hX (sb up)
  ·refine A8 ?_
   exact t5 _ _ _ rd (w.up (by omega) (by omega)) hX (sb up)
end
end Mine
namespace Mine
section
variable {g : G} {k : Nat} {σ : Store} {env : Env} {L : Addr}
theorem IterT2_enum {R τ : Store} {m : Loc} {e it l : Addr} {ds : List V} {elts : List Expr} {x1} {pos : Pos} {Q : ∀ it, ItT g it (.Tuple elts x1 pos) → Prop} (q : Q e (itE g e it l elts x1 pos ds)) :
  IterT2 g k (.Tuple elts x1 pos) (Fm R L m ((e, .pr (enumP it 0)) :: (it, .pr (litP l 0)) :: τ)) (Fm R L m τ) (.ref e) Q := fun A r s v S iv => by
 rw [Ae iv]
 have S' := S.perm (HJ [(e, .pr (enumP it 0)), (it, .pr (litP l 0))] R L m τ).symm
 obtain ⟨o, ho, ⟨old, rfl⟩, _⟩ := S'.cells _ (.head _)
 exact wpAny_pyIter_enum ho ⟨e, itE g e it l elts x1 pos ds, rfl, S', Keeps.refl _, trivial, q⟩
theorem Fn.perm {f : Addr} {ds : List V} {σ σ' : Store} {Q : V → Store → Prop} (p : σ.Perm σ') (h : Fn g k f ds σ' fun d σ₁ => ∃ σ₂, σ₁.Perm σ₂ ∧ Q d σ₂) : Fn g k f ds σ Q := fun A r s vs S is =>
 codeAny_mono (h A r s vs (S.perm p) is) fun r s' x => by
  cases r with
  | error e => exact x
  | ok f =>
   cases f with
   | ret v => obtain ⟨b, σ₁, rel, S₁, kp, σ₂, p₂, q⟩ := x; exact ⟨b, σ₂, rel, S₁.perm p₂, kp, q⟩
   | next => exact x
   | brk => exact x
   | cont => exact x
theorem EqS_flags (b1 b2 b3 : Bool) (x y z : Str) : EqS g 1 σ (Bu b1 x y z b2 b3) (Bu b1 x y z b2 b3) := .cons (.bool _) (.cons (.str _) (.cons (.str _) (.cons (.str _) (.cons (.bool _) (.cons (.bool _) .nil)))))
theorem eBD (R P τ : Store) (L : Addr) (m : Loc) : Fm (R ++ P) L m τ = R ++ (P ++ (L, .ns m) :: τ) := List.append_assoc ..
end
end Mine
namespace Mine
noncomputable def ScnOk (d : V) : Prop := ∃ a ws b ts f u, d = .tup [.str a, .str b, .int f, .int u] ∧ Splits a ws ∧ ws.length ≤ 20 ∧ (∀ w ∈ ws, w ∈ AW) ∧ Splits b ts ∧ ts.length ≤ 3 ∧ (∀ t ∈ ts, t ∈ tagsW)
theorem ES {a b : String} {f u : Int} (ws ts : List Str) (h1 : Splits (Str.ofString a) ws) (h2 : Splits (Str.ofString b) ts) (h3 : (Nat.ble ws.length 20 && (ws.all (fun w => AW.contains w) && (Nat.ble ts.length 3 && ts.all (fun t => tagsW.contains t)))) = true) : ScnOk (scnV a b f u) := by
 simp only [Bool.and_eq_true, List.all_eq_true, List.contains_iff_mem] at h3
 obtain ⟨a1, a2, a3, a4⟩ := h3
 exact ⟨_, ws, _, ts, f, u, rfl, h1, Nat.le_of_ble_eq_true a1, a2, h2, Nat.le_of_ble_eq_true a3, a4⟩
theorem scn_ok : ∀ i, i < 8 → ∃ d, scenes[i]? = some d ∧ ScnOk d := by
 intro i hi
 obtain rfl | rfl | rfl | rfl | rfl | rfl | rfl | rfl : i = 0 ∨ i = 1 ∨ i = 2 ∨ i = 3 ∨ i = 4 ∨ i = 5 ∨ i = 6 ∨ i = 7 := by omega
 ·exact ⟨_, rfl, ES (sL ["html", "body", "*b", "h1", "p", "-i", "span"]) (sL ["h2", "button", "button"]) ⟨by kernel_rfl, by kernel_rfl, by kernel_rfl, by kernel_rfl⟩ ⟨by kernel_rfl, by kernel_rfl, by kernel_rfl, by kernel_rfl⟩ (by kernel_rfl)⟩
 ·exact ⟨_, rfl, ES (sL ["html", "body", "ul", "li", "div", "*a", "address", "p"]) (sL ["li", "p", "li"]) ⟨by kernel_rfl, by kernel_rfl, by kernel_rfl, by kernel_rfl⟩ ⟨by kernel_rfl, by kernel_rfl, by kernel_rfl, by kernel_rfl⟩ (by kernel_rfl)⟩
 ·exact ⟨_, rfl, ES (sL ["html", "body", "p", "dl", "dd", "span", "svg:p", "svg:dt", "math:mrow"]) (sL ["dt", "form", "hr"]) ⟨by kernel_rfl, by kernel_rfl, by kernel_rfl, by kernel_rfl⟩ ⟨by kernel_rfl, by kernel_rfl, by kernel_rfl, by kernel_rfl⟩ (by kernel_rfl)⟩
 ·exact ⟨_, rfl, ES (sL ["html", "body", "p", "template", "h5"]) (sL ["plaintext", "form", "dd"]) ⟨by kernel_rfl, by kernel_rfl, by kernel_rfl, by kernel_rfl⟩ ⟨by kernel_rfl, by kernel_rfl, by kernel_rfl, by kernel_rfl⟩ (by kernel_rfl)⟩
 ·exact ⟨_, rfl, ES (sL ["html", "body", "form", "p", "svg:g"]) (sL ["form", "table", "button"]) ⟨by kernel_rfl, by kernel_rfl, by kernel_rfl, by kernel_rfl⟩ ⟨by kernel_rfl, by kernel_rfl, by kernel_rfl, by kernel_rfl⟩ (by kernel_rfl)⟩
 ·exact ⟨_, rfl, ES (sL ["html", "body", "p", "div", "p", "|", "-b"]) (sL ["xmp", "table", "pre"]) ⟨by kernel_rfl, by kernel_rfl, by kernel_rfl, by kernel_rfl⟩ ⟨by kernel_rfl, by kernel_rfl, by kernel_rfl, by kernel_rfl⟩ (by kernel_rfl)⟩
 ·exact ⟨_, rfl, ES (sL ["li", "svg:g", "rt"]) (sL ["li", "ul", "li"]) ⟨by kernel_rfl, by kernel_rfl, by kernel_rfl, by kernel_rfl⟩ ⟨by kernel_rfl, by kernel_rfl, by kernel_rfl, by kernel_rfl⟩ (by kernel_rfl)⟩
 ·exact ⟨_, rfl, ES (sL ["*b", "-i", "span"]) (sL ["li", "h3", "xmp"]) ⟨by kernel_rfl, by kernel_rfl, by kernel_rfl, by kernel_rfl⟩ ⟨by kernel_rfl, by kernel_rfl, by kernel_rfl, by kernel_rfl⟩ (by kernel_rfl)⟩
noncomputable def rowsV : V := .tup (rowsL.map fun r => .tup (r.map prV))
section
variable {g : G} {k : Nat} {τ σ R : Store} {Q : V → Store → Prop} {b : Nat} {L₀ : Addr} {m₀ : Loc} {env : Env}
theorem mod3 (x : Int) : x.fmod 3 = 0 ∨ x.fmod 3 = 1 ∨ x.fmod 3 = 2 := by
 have h1 := Int.fmod_nonneg_of_pos x (show (0 : Int) < 3 by decide)
 have h2 := Int.fmod_lt_of_pos x (show (0 : Int) < 3 by decide)
 omega
end
end Mine
namespace Mine
noncomputable def lawFor : List Stmt := match (stB (tS 64)).drop 2 with
 | .For _ _ b _ _ :: _ => b
 | _ => []
noncomputable def lawIn : List Stmt := match lawFor.drop 6 with
 | .For _ _ b _ _ :: _ => b
 | _ => []
theorem Big.same {s t : St} {b : Nat} (w : Big s b) (h : Same s t) : Big t b :=
 ⟨by rw [h.names]; exact w.n, by rw [h.opn]; exact w.opn, by rw [h.fmt]; exact w.fmt, by rw [h.errors]; exact w.err, by rw [h.owners]; exact w.own, by rw [h.contents]; exact w.con, by rw [h.attrs]; exact w.att, by rw [h.children]; exact w.chi, w.small⟩
theorem Same.of_noA {s t s' t' : St} (h : Same s t) (e1 : s'.noA = s.noA) (e2 : t'.noA = t.noA) : Same s' t' :=
 ⟨(congrArg St.opn e2 : t'.noA.opn = _).trans (h.opn.trans (congrArg St.opn e1 : s'.noA.opn = _).symm), (congrArg St.fmt e2 : t'.noA.fmt = _).trans (h.fmt.trans (congrArg St.fmt e1 : s'.noA.fmt = _).symm),
  (congrArg St.names e2 : t'.noA.names = _).trans (h.names.trans (congrArg St.names e1 : s'.noA.names = _).symm), (congrArg St.spaces e2 : t'.noA.spaces = _).trans (h.spaces.trans (congrArg St.spaces e1 : s'.noA.spaces = _).symm),
  (congrArg St.attrs e2 : t'.noA.attrs = _).trans (h.attrs.trans (congrArg St.attrs e1 : s'.noA.attrs = _).symm), (congrArg St.parents e2 : t'.noA.parents = _).trans (h.parents.trans (congrArg St.parents e1 : s'.noA.parents = _).symm),
  (congrArg St.children e2 : t'.noA.children = _).trans (h.children.trans (congrArg St.children e1 : s'.noA.children = _).symm), (congrArg St.contents e2 : t'.noA.contents = _).trans (h.contents.trans (congrArg St.contents e1 : s'.noA.contents = _).symm),
  (congrArg St.owners e2 : t'.noA.owners = _).trans (h.owners.trans (congrArg St.owners e1 : s'.noA.owners = _).symm), (congrArg St.errors e2 : t'.noA.errors = _).trans (h.errors.trans (congrArg St.errors e1 : s'.noA.errors = _).symm),
  (congrArg St.form e2 : t'.noA.form = _).trans (h.form.trans (congrArg St.form e1 : s'.noA.form = _).symm), (congrArg St.kinds e2 : t'.noA.kinds = _).trans (h.kinds.trans (congrArg St.kinds e1 : s'.noA.kinds = _).symm)⟩
theorem tags_len : tagsW.all (fun n => Nat.ble n.length 100) = true := by decide +kernel
theorem rows_len : rowsL.all (fun r => Nat.ble r.length 2) = true := by decide +kernel
theorem seq3 {p : Int} (h : p = 0 ∨ p = 1 ∨ p = 2) : seqIndex? p 3 = some p.toNat := by
 rcases h with rfl | rfl | rfl <;> rfl
theorem perm_due (A P : Store) (l p : Addr × Cell) (τ : Store) : (P ++ p :: (A ++ l :: τ)).Perm ((A ++ P) ++ l :: p :: τ) := by
 refine (List.perm_middle (a := p) (l₁ := P) (l₂ := A ++ l :: τ)).trans ?_
 refine ((List.perm_append_comm_assoc P A (l :: τ)).cons p).trans ?_
 rw [← List.append_assoc]
 refine (List.perm_middle (a := p) (l₁ := A ++ P) (l₂ := l :: τ)).symm.trans ?_
 exact (List.Perm.swap l p τ).append_left (A ++ P)
theorem perm_flags (A P : Store) (l p : Addr × Cell) (τ : Store) : (A ++ p :: (P ++ l :: τ)).Perm ((A ++ P) ++ l :: p :: τ) := by
 refine (List.perm_middle (a := p) (l₁ := A) (l₂ := P ++ l :: τ)).trans ?_
 rw [← List.append_assoc]
 refine (List.perm_middle (a := p) (l₁ := A ++ P) (l₂ := l :: τ)).symm.trans ?_
 exact (List.Perm.swap l p τ).append_left (A ++ P)
section
variable {g : G} {k : Nat} {τ σ R : Store} {Q : V → Store → Prop} {b : Nat} {L₀ : Addr} {m₀ : Loc} {env : Env}
theorem W.dropS {α β : Type} {rel : Heap → α → β → Prop} {tr : Sem α} {Q : β → Store → Prop} (h : W g k rel σ tr fun x σ₁ => ∃ (σ' σ₂ : Store), σ'.Sublist σ₁ ∧ σ'.Perm σ₂ ∧ Q x σ₂) : W g k rel σ tr Q := fun A r s S =>
 wpAny_mono (h A r s S) (fun a s' ⟨x, σ₁, rx, S', kp, σ', σ₂, h1, h2, q⟩ => ⟨x, σ₂, rx, (S'.sublist h1).perm h2, kp, q⟩) fun _ _ e => e
theorem Ok.back {s : St} (ok : Ok s) : Ok s.back := by cases s; exact ⟨ok.sp, ok.ki, ok.te, ok.at_, ok.aA, ok.pa, ok.ch, ok.cA, ok.pos, ok.opn, ok.fmt, ok.up, ok.con⟩
theorem Big.back {s : St} {b : Nat} (w : Big s b) : Big s.back b := by cases s; exact ⟨w.n, w.opn, w.fmt, w.err, w.own, w.con, w.att, w.chi, w.small⟩
theorem Nice.back {s : St} (n : Nice s) : Nice s.back := by cases s; exact ⟨n.opn, n.fmt, ⟨n.tx.n, n.tx.sp⟩, n.c0, n.te⟩
theorem Same.back {s t : St} (sm : Same s t) : Same s.back t := by cases s; exact ⟨sm.opn, sm.fmt, sm.names, sm.spaces, sm.attrs, sm.parents, sm.children, sm.contents, sm.owners, sm.errors, sm.form, sm.kinds⟩
theorem fl_back (s : St) : s.back.fl = (true, inBody, es, es, false, false, s.quirks) := by cases s; rfl
theorem Iz (s : St) : s.back.fmt = s.fmt := by cases s; rfl
theorem back_quirks (s : St) : s.back.quirks = s.quirks := by cases s; rfl
theorem Good.same {s t : St} {b : Nat} (n : Nice s) (w : Big s b) (okt : Ok t) (sm : Same s t) : Good t b t.fmt := ⟨okt, w.same sm, n.tx.of sm.names sm.spaces, rfl, by unfold St.con; rw [sm.contents]; exact n.c0⟩
theorem Nice.noT {s : St} (n : Nice s) : ∀ x ∈ s.fmt, x = -1 ∨ (s.na x == templateS) = false := fun x hx => (n.fmt x hx).imp id fun h => beq_eq_false_iff_ne.mpr (of_F h).2.2
theorem flags_noA {s t : St} (e : s.noA = t.noA) : s.flags = t.flags := (congrArg St.flags e : s.noA.flags = t.noA.flags)
theorem Fn_due {B : BA} {D : DA} {s t : St} {L : Addr} {m : Loc} {FF : List Int} {name : Str} {attrs : List (Str × Str)} {quirks : Int} (h : Good t b FF) (hnm : name.length ≤ 100) (ha : attrs.length ≤ 1000) (ha2 : attrs.length ≤ b + 1) (hb : b + 2 * FF.length + 8 ≤ 1000000)
  (q : ∀ e t' fl, t'.noA = (t.dueS name attrs quirks).noA → Ok t' → Q (.ref fl) (Fm (AE B s ++ AS (D.at e) t') L m ((fl, .list (t.dueFl name)) :: τ))) : Fn g (k + 5) 736 [.ref D.due, .str name, .tup (attrs.map prV), .int quirks] (Fm (AE B s ++ AS D t) L m τ) Q :=
 Fn.perm (σ' := AS D t ++ (AE B s ++ (L, .ns m) :: τ)) (by rw [eBD]; exact List.perm_append_comm_assoc _ _ _) (law_due_spec h hnm ha ha2 hb fun e t' fl e1 ok' => ⟨_, perm_due _ _ _ _ _, q e t' fl e1 ok'⟩)
theorem Fn_flags {B : BA} {D : DA} {s t : St} {L : Addr} {m : Loc} (q : ∀ fl, Q (.ref fl) (Fm (AE B s ++ AS D t) L m ((fl, .list s.flags) :: τ))) : Fn g (k + 1) 743 [.ref B.bd] (Fm (AE B s ++ AS D t) L m τ) Q :=
 Fn.perm (σ' := AE B s ++ (AS D t ++ (L, .ns m) :: τ)) (by rw [eBD]) (Io fun fl => ⟨_, perm_flags _ _ _ _ _, q fl⟩)
theorem Fn_bs {B : BA} {D : DA} {s t : St} {L : Addr} {m : Loc} {name : Str} {attrs : List (Str × Str)} (ok : Ok s) (w : Big s b) (ha : attrs.length ≤ b + 1) (hb : b + 2 * s.fmt.length + 8 ≤ 1000000) (hn : (name == templateS) = false) (ht : ∀ x ∈ s.fmt, x = -1 ∨ (s.na x == templateS) = false)
  (q : ∀ s', s'.noA = (s.bs name attrs).noA → Ok s' → Big s' (b + 2 * s.fmt.length + 6) → Q .none (Fm (AE B s' ++ AS D t) L m τ)) : Fn g (k + 8) 322 [.ref B.bd, Cf name attrs] (Fm (AE B s ++ AS D t) L m τ) Q := by
 rw [eBD]
 refine GL ok w ha hb hn ht fun s' e1 ok' w' => ?_
 rw [← eBD]
 exact q s' e1 ok' w'
theorem Fn_isdue {B : BA} {D : DA} {s t : St} {L : Addr} {m : Loc} (oks : Ok s) (okt : Ok t) (w : Big s b) (hs : Same s t) (ht : s.texts = List.replicate s.kinds.length es) (q : Q (.bool true) (Fm (AE B s ++ AS D t) L m τ)) : Fn g (k + 1) 755 [.ref B.bd, .ref D.due] (Fm (AE B s ++ AS D t) L m τ) Q := by
 rw [eBD] at q ⊢
 exact HE oks okt w hs ht q
noncomputable def namesC (na : Addr) : Addr × Cell := (na, Cell.list (tagsW.map V.str))
noncomputable def lawM (na sa B D : Addr) (i : Nat) (qk : Int) : Loc := [(zs "due", V.ref D), (zs "builder", V.ref B), (zs "quirks", V.int qk), (zs "k", V.int i), (zs "rows", rowsV), (zs "names", V.ref na), (zs "script", V.ref sa)]
inductive TurnQ (B : BA) (D : DA) (τ : Store) (L : Addr) (M : Loc) (s : St) (b : Nat) (fl : Fl) (σ' : Store) : Prop
 | mk (h : fl = .next) (s' t' : St) (e : Addr) (m' : Loc) (h1 : Sub M m') (h2 : σ' = Fm (AE B s' ++ AS (D.at e) t') L m' τ) (h3 : Nice s') (h4 : Ok s') (h5 : Ok t') (h6 : Big s' b) (h7 : Same s' t') (h8 : s'.quirks = s.quirks) (h9 : s'.fmt.length = s.fmt.length) : TurnQ B D τ L M s b fl σ'
set_option maxHeartbeats 8000000 in
theorem law_turn {sa na : Addr} {sc : List Int} {B : BA} {D : DA} {s t : St} {i j : Nat} {qk : Int} {nm : Str} (hs : Scr g sa sc) (hz : sc.length ≤ 1000) (hi : i < 8) (hj : j < 3) (hna : namesC na ∈ τ)
  (n : Nice s) (ok : Ok s) (okt : Ok t) (w : Big s b) (hb : b + 2 * s.fmt.length + 8 ≤ 1000000) (sm : Same s t) (hq : (s.quirks != DM) = decide (qk < 2)) (hn : nm ∈ tagsW) {L f : Addr} {cdv : Value} :
  W g (k + 12) IsFl (Fm (AE B s ++ AS D t) L ((zs "name", .str nm) :: (zs "j", .int j) :: lawM na sa B.bd D.due i qk) τ) (execs lawIn (envOf (zs "law") (stS (tS 64)) L f cdv))
   (TurnQ B D τ L (lawM na sa B.bd D.due i qk) s (b + 2 * s.fmt.length + 6)) := by
 refine W.dropS ?_
 conv in lawIn => whnf
 conv in stS _ => whnf
 unfold lawM
 refine A6 ?_
 refine AD ?_
 refine AJ (De _) (Dk _) ?_
 refine A5 ?_
 refine A4 rfl ?_
 refine A5 ?_
 refine AP ?_
 refine AP ?_
 refine AP ?_
 refine AL ?_
 refine A4 rfl ?_
 refine O_mul (IntMulOk.of_left (by decide)) ?_
 refine AL ?_
 refine Cw ?_
 refine A4 rfl ?_
 refine Cw ?_
 refine A7 ?_
 refine D5 (by omega) (by omega) hs hz ?_
 generalize digit sc (7 * (i : Int) + 4 + (j : Int)).toNat = dg
 have mna : namesC na ∈ Fm (AE B s ++ AS D t) L ((zs "digit", V.int dg) :: (zs "name", .str nm) :: (zs "j", .int j) :: lawM na sa B.bd D.due i qk) τ := List.mem_append_right _ (.tail _ hna)
 have e39 : tagsW.length = 39 := by kernel_rfl
 refine AF ?_
 refine A6 ?_
 refine AD ?_
 refine AO ?_
 refine A4 rfl ?_
 refine AP ?_
 refine AP ?_
 refine AH ?_
 refine A4 rfl ?_
 refine Aq (TyOf.list (by walk_at "mm")) F.plainAttrs_list F.slot_list_index F.type_list_index ?_
 refine A5 ?_
 refine A4 rfl ?_
 refine A7 ?_
 refine Cl_index mna hn (by rw [e39]; decide) ?_
 refine A4 rfl ?_
 refine Cw ?_
 refine Ar (BN _) rfl (by decide) ?_
 refine A5 ?_
 refine A4 rfl ?_
 refine A7 ?_
 refine BT mna (by rw [List.length_map, e39]; exact sz_lit rfl) ?_
 rw [List.length_map, e39]
 refine FC (by decide) ?_
 have hp0 : 0 ≤ (((tagsW.idxOf nm : Nat) : Int) + dg).fmod ((39 : Nat) : Int) := Int.fmod_nonneg_of_pos _ (by decide)
 have hp1 : (((tagsW.idxOf nm : Nat) : Int) + dg).fmod ((39 : Nat) : Int) < ((39 : Nat) : Int) := Int.fmod_lt_of_pos _ (by decide)
 generalize (((tagsW.idxOf nm : Nat) : Int) + dg).fmod ((39 : Nat) : Int) = p at hp0 hp1 ⊢
 have hpl : p.toNat < tagsW.length := by rw [e39]; omega
 refine Ay (ds := tagsW.map V.str) (d := .str tagsW[p.toNat]) mna hp0 (by omega) (by rw [List.getElem?_map, List.getElem?_eq_getElem hpl]; rfl) ?_
 have hnm : tagsW[p.toNat] ∈ tagsW := List.getElem_mem hpl
 generalize tagsW[p.toNat] = nm2 at hnm ⊢
 refine AF ?_
 refine A6 ?_
 refine AD ?_
 refine AO ?_
 refine A4 rfl ?_
 refine AP ?_
 refine AP ?_
 refine AP ?_
 refine AP ?_
 refine A4 rfl ?_
 refine Ar (BN _) rfl (by decide) ?_
 refine A5 ?_
 refine A4 rfl ?_
 refine A7 ?_
 refine BT (l := na) (ds := tagsW.map V.str) (List.mem_append_right _ (.tail _ hna)) (by rw [List.length_map, e39]; exact sz_lit rfl) ?_
 rw [List.length_map, e39]
 refine O_div (by decide) (PyProof.noPylong_small (by decide)) ?_
 refine A4 rfl ?_
 refine Cw ?_
 refine A4 rfl ?_
 refine Cw ?_
 refine AL ?_
 refine FC (by decide) ?_
 have h3 := mod3 (dg.fdiv ((39 : Nat) : Int) + (j : Int) + (i : Int))
 generalize (dg.fdiv ((39 : Nat) : Int) + (j : Int) + (i : Int)).fmod 3 = r at h3 ⊢
 have hrl : r.toNat < rowsL.length := by rw [show rowsL.length = 3 from rfl]; omega
 refine CA (ds := rowsL.map fun r => V.tup (r.map prV)) (d := V.tup (rowsL[r.toNat].map prV)) r.toNat ?hx1 ?hx2 ?hx3 ?hx4 ?hx5 (hs := ?hx6)
 case hx6 => intro _ _; with_unfolding_all rfl
 case hx1 => rw [List.length_map]; exact seq3 h3
 case hx2 => rw [List.getElem?_map, List.getElem?_eq_getElem hrl]; rfl
 case hx4 => omega
 case hx5 => omega
 have hrow : rowsL[r.toNat] ∈ rowsL := List.getElem_mem hrl
 generalize rowsL[r.toNat] = row at hrow ⊢
 refine AF ?_
 refine A6 ?_
 refine AI ?_
 refine AJ (Gn _) (H9 _) ?_
 refine A5 ?_
 refine A4 rfl ?_
 refine A7 ?_
 rw [eBD]
 refine Fr ?_
 rw [← eBD]
 refine ⟨rfl, ?_⟩
 refine A6 ?_
 refine AD ?_
 refine AJ (gl_law_due _) (kp_law_due _) ?_
 refine A5 ?_
 refine A4 rfl ?_
 refine A5 ?_
 refine A4 rfl ?_
 refine A5 ?_
 refine A4 rfl ?_
 refine A5 ?_
 refine A4 rfl ?_
 refine A7 ?_
 have T := tag hnm
 have lnm : nm2.length ≤ 100 := Nat.le_of_ble_eq_true (List.all_eq_true.mp tags_len nm2 hnm)
 have lrow : row.length ≤ 2 := Nat.le_of_ble_eq_true (List.all_eq_true.mp rows_len row hrow)
 have n1 := n.back
 have ok1 := ok.back
 have w1 := w.back
 have sm1 := sm.back
 have good := Good.same n w okt sm
 have eF : t.fmt.length = s.fmt.length := by rw [sm.fmt]
 have hpos : 1 ≤ b := Nat.le_trans ok.pos w.n
 obtain ⟨r1, r2, r3, r4, r5⟩ := law_step (q := qk) (Q := s.quirks) n1 ok1 sm1 (fl_back s) hnm hrow hq
 have hb2 : b + 2 * t.fmt.length + 8 ≤ 1000000 := by rw [eF]; exact hb
 have l1 : row.length ≤ 1000 := by omega
 have l2 : row.length ≤ b + 1 := by omega
 refine Fn_due good lnm l1 l2 hb2 ?_
 intro e t2 fl e2 okt2
 refine AF ?_
 refine A6 ?_
 refine AI ?_
 refine AJ (HX _) (ID _) ?_
 refine A5 ?_
 refine A4 rfl ?_
 refine A5 ?_
 refine Ah ?_
 refine A5 ?_
 refine A9 ?_
 refine A5 ?_
 refine A4 rfl ?_
 refine A5 ?_
 refine A4 rfl ?_
 refine A5 ?_
 refine As ?_
 refine A7 ?_
 refine ⟨sz_lit rfl, ?_⟩
 refine A7 ?_
 have hb3 : b + 2 * s.back.fmt.length + 8 ≤ 1000000 := by rw [Iz]; exact hb
 refine Fn_bs ok1 w1 l2 hb3 (beq_eq_false_iff_ne.mpr T.t) n1.noT ?_
 intro s2 e3 ok2 w2
 have sm2 : Same s2 t2 := r1.of_noA e3 e2
 have n2 : Nice s2 := r3.of_noA e3
 have hfl : s2.flags = t.dueFl nm2 := (flags_noA e3).trans r2
 have hq2 : s2.quirks = s.quirks := ((congrArg St.quirks e3 : s2.noA.quirks = _).trans r5).trans (back_quirks s)
 have hf2 : s2.fmt.length = s.fmt.length := ((congrArg (fun x => x.fmt.length) e3 : s2.noA.fmt.length = _).trans r4).trans (congrArg List.length (Iz s))
 have w3 : Big s2 (b + 2 * s.fmt.length + 6) := by rw [Iz] at w2; exact w2
 clear r1 r2 r3 r4 r5 e2 e3 w2
 refine ⟨rfl, ?_⟩
 refine A6 ?_
 refine AY ?_
 refine GS ?_
 refine AB ?_
 refine AJ (gl_law_flags _) (kp_law_flags _) ?_
 refine A5 ?_
 refine A4 rfl ?_
 refine A7 ?_
 refine Fn_flags fun fl2 => ?_
 refine A4 rfl ?_
 rw [← hfl]
 refine O_neL (xs := s2.flags) (ys := s2.flags) (List.mem_append_right _ (.tail _ (.head _))) (List.mem_append_right _ (.tail _ (.tail _ (.head _)))) (EqS_flags _ _ _ _ _ _) (by decide) ?_
 refine ⟨_, rfl, ?_⟩
 refine CH rfl ?_
 refine F0 ?_
 refine Df ?_
 refine B7 ?_
 refine AJ (gl_law_is_due _) (kp_law_is_due _) ?_
 refine A5 ?_
 refine A4 rfl ?_
 refine A5 ?_
 refine A4 rfl ?_
 refine A7 ?_
 refine Fn_isdue ok2 okt2 w3 sm2 n2.te ?_
 refine An ?_
 refine CH rfl ?_
 refine A8 ?_
 refine A8 ?_
 exact ⟨Fm (AE B s2 ++ AS (D.at e) t2) L [(zs "flags", V.ref fl), (zs "attrs", V.tup (List.map prV row)), (zs "name", V.str nm2), (zs "digit", V.int dg), (zs "name", V.str nm), (zs "j", V.int j), (zs "due", V.ref D.due), (zs "builder", V.ref B.bd), (zs "quirks", V.int qk), (zs "k", V.int i), (zs "rows", rowsV), (zs "names", V.ref na), (zs "script", V.ref sa)] τ, _, List.Sublist.append_left (.cons_cons _ (.cons _ (.cons _ (.refl _)))) _, .refl _, rfl, s2, t2, e, _,
  .cons (by kernel_rfl) (.cons (by kernel_rfl) (.cons (by kernel_rfl) (.cons (by kernel_rfl) (.cons (by kernel_rfl) (.cons (by kernel_rfl) (.cons (by kernel_rfl) .nil)))))), rfl, n2, ok2, okt2, w3, sm2, hq2, hf2⟩
end
end Mine
namespace Mine
section
variable {g : G} {k : Nat} {τ σ R : Store} {Q : V → Store → Prop} {b : Nat} {L₀ : Addr} {m₀ : Loc} {env : Env}
theorem Rdy.nice {seen : List Str} {s : St} (r : Rdy seen s) : Nice s :=
 ⟨r.opn, r.fmt, r.tx, by
  unfold St.con
  rw [List.find?_eq_none.mpr fun p hp => by have := r.con p hp; rw [decide_eq_true_eq]; omega]; rfl, r.te⟩
theorem qS_lt {q : Int} (h : q = 0 ∨ q = 1 ∨ q = 2) : (qS q != DM) = decide (q < 2) := by
 rcases h with rfl | rfl | rfl <;> decide
theorem Same.copy {s : St} (e1 : s.errors = []) (e2 : s.owners = []) (aA cA : List Addr) : Same s (s.copy aA cA) :=
 ⟨rfl, rfl, rfl, rfl, rfl, rfl, rfl, rfl, e2.symm, e1.symm, rfl, rfl⟩
theorem Ok.copy {s : St} (ok : Ok s) {aA cA : List Addr} (h1 : aA.length = s.names.length) (h2 : cA.length = s.names.length) : Ok (s.copy aA cA) :=
 ⟨ok.sp, ok.ki, ok.te, ok.at_, h1, ok.pa, ok.ch, h2, ok.pos, ok.opn, ok.fmt, ok.up, ok.con⟩
theorem iff_O1 {α β : Type} {rel : Heap → α → β → Prop} {t : Value → Sem α} {d d' : V} {Q : β → Store → Prop} (e : d = d') (h : O1 g k rel σ t d' Q) : O1 g k rel σ t d Q := e ▸ h
noncomputable def lawS (na sa : Addr) (i : Nat) (text tags : Str) (f0 u0 : Int) : Loc := [(zs "quirks", V.int u0), (zs "form", V.int f0), (zs "tags", V.str tags), (zs "text", V.str text), (zs "k", V.int i), (zs "rows", rowsV), (zs "names", V.ref na), (zs "script", V.ref sa)]
noncomputable def law0 (na sa : Addr) : Loc := [(zs "rows", rowsV), (zs "names", V.ref na), (zs "script", V.ref sa)]
inductive ScI (g : G) (B : BA) (D : DA) (sa na : Addr) (i : Nat) (qk : Int) (ts : List Str) (T : Store) (N b0 : Nat) {elts : List Expr} {x1} {pos : Pos} (e : Addr) (I : ItT g e (.Tuple elts x1 pos)) (j : Nat) (R' : Store) (m : Loc) (τ' : Store) : Prop
 | mk (it l : Addr) (s' t' : St) (e' : Addr) (X : Store) (h0 : I = itE g e it l elts x1 pos (ts.map V.str)) (h1 : j ≤ ts.length) (h2 : R' = AE B s' ++ AS (D.at e') t') (h3 : m = lawM na sa B.bd D.due i qk) (h4 : τ' = X ++ (l, Cell.list (ts.map V.str)) :: T) (h5 : Nice s') (h6 : Ok s') (h7 : Ok t') (h8 : Big s' (b0 + j * (2 * N + 6))) (h9 : Same s' t') (h10 : s'.quirks = qS qk) (h11 : s'.fmt.length = N) : ScI g B D sa na i qk ts T N b0 e I j R' m τ'
set_option maxHeartbeats 8000000 in
theorem law_scene {sa na : Addr} {sc : List Int} {i : Nat} {text tags : Str} {ws ts : List Str} {f0 u0 : Int} (hs : Scr g sa sc) (hz : sc.length ≤ 1000) (hi : i < 8) (hna : namesC na ∈ τ)
  (s1 : Splits text ws) (hwl : ws.length ≤ 20) (hwa : ∀ w ∈ ws, w ∈ AW) (s2 : Splits tags ts) (htl : ts.length ≤ 3) (hta : ∀ t ∈ ts, t ∈ tagsW) {L f : Addr} {cdv : Value} :
  W g (k + 12) IsFl (Fm [] L (lawS na sa i text tags f0 u0) τ) (execs (lawFor.drop 1) (envOf (zs "law") (stS (tS 64)) L f cdv))
   fun fl σ' => fl = .next ∧ ∃ m', Sub (law0 na sa) m' ∧ σ' = Fm [] L m' τ := by
 refine W.dropS ?_
 conv in lawFor => whnf
 conv in stS _ => whnf
 show WS g (k + 12) _ _ [_, _, _, _, _, _] _
 unfold lawS
 refine A6 ?_
 refine AD ?_
 refine AJ (De _) (Dk _) ?_
 refine A5 ?_
 refine A4 rfl ?_
 refine A5 ?_
 refine AP ?_
 refine AL ?_
 refine A4 rfl ?_
 refine O_mul (IntMulOk.of_left (by decide)) ?_
 refine A7 ?_
 refine D5 (by omega) (by omega) hs hz ?_
 generalize digit sc (7 * (i : Int)).toNat = dg
 refine AF ?_
 refine A6 ?_
 refine AD ?_
 refine AP ?_
 refine AP ?_
 refine A4 rfl ?_
 refine A4 rfl ?_
 refine Cw ?_
 refine AL ?_
 refine FC (by decide) ?_
 generalize (f0 + dg).fmod 3 = fm
 refine AF ?_
 refine A6 ?_
 refine AD ?_
 refine AP ?_
 refine AP ?_
 refine A4 rfl ?_
 refine AP ?_
 refine A4 rfl ?_
 refine AL ?_
 refine O_div (by decide) (PyProof.noPylong_small (by decide)) ?_
 refine Cw ?_
 refine AL ?_
 refine FC (by decide) ?_
 have hq := mod3 (u0 + dg.fdiv 3)
 generalize (u0 + dg.fdiv 3).fmod 3 = qk at hq ⊢
 refine AF ?_
 refine A6 ?_
 refine AD ?_
 refine AJ (gl_law_ready _) (kp_law_ready _) ?_
 refine A5 ?_
 refine AJ (gl_law_words _) (kp_law_words _) ?_
 refine A5 ?_
 refine A4 rfl ?_
 refine A5 ?_
 refine A4 rfl ?_
 refine A5 ?_
 refine A4 rfl ?_
 refine A7 ?_
 refine Iv (by omega) (by omega) s1 (by omega) hs hz ?_
 intro wl ws' hl' hw'
 have hAW : ∀ w ∈ ws', w ∈ AW := fun w h => (hw' w h).elim (hwa w) fun h => List.contains_iff_mem.mp (List.all_eq_true.mp pool_AW w h)
 refine A5 ?_
 refine A4 rfl ?_
 refine A5 ?_
 refine A4 rfl ?_
 refine A7 ?_
 refine Iy (ws := ws') (by walk_at "mm") (by omega) hAW hq ?_
 intro B s rd w eq
 refine AF ?_
 refine A6 ?_
 refine AD ?_
 refine AJ (gl_law_copy _) (kp_law_copy _) ?_
 refine A5 ?_
 refine A4 rfl ?_
 refine A7 ?_
 refine law_copy_spec rd.ok w ?_
 intro D aA cA ha hc
 rw [← eBD]
 have n0 := rd.nice
 have okt := rd.ok.copy ha hc
 have sm0 := Same.copy rd.er rd.ow aA cA
 have ok0 := rd.ok
 have hb0 : 6 * ws'.length + 8 ≤ 200 := by omega
 have hF := w.fmt
 generalize s.copy aA cA = t0 at okt sm0 ⊢
 generalize 6 * ws'.length + 8 = b0 at w hb0 hF
 clear rd ha hc hw' hAW
 refine AF ?_
 refine A6 ?_
 refine II (L := L) (ScI g B D sa na i qk ts ((wl, Cell.list (ws'.map V.str)) :: τ) s.fmt.length b0) ?_ ?_ ?_ ?_
 ·refine Ap (gl_enumerate _) rfl (by decide) ?_
  refine A5 ?_
  refine AH ?_
  refine A4 rfl ?_
  refine By TyOf.str F.plainAttrs_str F.slot_str_split F.type_str_split ?_
  refine Bg s2.h1 s2.hw s2.hx s2.hn fun l => ?_
  refine A7 ?_
  refine Cl_enum (l := l) (ds := ts.map V.str) (by walk_at "mm") fun e it => ?_
  refine ⟨_, lawM na sa B.bd D.due i qk, _, (l, Cell.list (ts.map V.str)) :: (wl, Cell.list (ws'.map V.str)) :: τ, ?_, IterT2_enum ⟨it, l, s, t0, D.op, [], rfl, Nat.zero_le _, rfl, rfl, rfl, n0, ok0, okt, ?_, sm0, eq, rfl⟩⟩
  ·exact .cons (by kernel_rfl) (.cons (by kernel_rfl) (.cons (by kernel_rfl) (.cons (by kernel_rfl) (.cons (by kernel_rfl) (.cons (by kernel_rfl) (.cons (by kernel_rfl) .nil))))))
  ·rw [Nat.zero_mul]; exact w
 ·rintro e I j R' m τ' hlt ⟨it, l, s', t', e', X, rfl, hj, rfl, rfl, rfl, n', ok', okt', w', sm', hq', hf'⟩
  have hlt' : j < ts.length := by have h : j < (ts.map V.str).length := hlt; rwa [List.length_map] at h
  have eg : (ts.map V.str).getD j .none = .str ts[j] := by
   rw [List.getD_eq_getElem?_getD, List.getElem?_map, List.getElem?_eq_getElem hlt']; rfl
  have hnm := hta _ (List.getElem_mem hlt')
  have hb' : b0 + j * (2 * s.fmt.length + 6) + 2 * s'.fmt.length + 8 ≤ 1000000 := by
   rw [hf']
   have : j * (2 * s.fmt.length + 6) ≤ 3 * (2 * s.fmt.length + 6) := Nat.mul_le_mul_right _ (by omega)
   omega
  refine iff_O1 (d' := V.tup [V.int j, .str ts[j]]) (congrArg (fun x => V.tup [V.int j, x]) eg) ?_
  generalize ts[j] = nm at hnm ⊢
  refine C1 rfl ?_
  refine BB ?_
  refine AT ?_
  refine AF ?_
  refine BB ?_
  refine AT ?_
  refine AF ?_
  refine DJ ?_
  refine W.mono (law_turn (B := B) (D := D.at e') (i := i) (j := j) (qk := qk) hs hz hi (by omega) (List.mem_append_right _ (List.mem_append_right _ (.tail _ (.tail _ hna)))) n' ok' okt' w' hb' sm' (by rw [hq']; exact qS_lt hq) hnm) ?_
  rintro fl σ' ⟨rfl, s2, t2, e2, m', hsub, rfl, n2, ok2, okt2, w2, sm2, hq2, hf2⟩
  refine ⟨_, _, _, _, rfl, hsub, it, l, s2, t2, e2, X, rfl, hlt', rfl, rfl, rfl, n2, ok2, okt2, ?_, sm2, hq2.trans hq', hf2.trans hf'⟩
  rw [hf'] at w2
  rw [Nat.succ_mul, show b0 + (j * (2 * s.fmt.length + 6) + (2 * s.fmt.length + 6)) = b0 + j * (2 * s.fmt.length + 6) + 2 * s.fmt.length + 6 by omega]
  exact w2
 ·rintro e I j R' m τ' ⟨it, l, s', t', e', X, rfl, hj, rfl, rfl, rfl, h⟩
  refine ⟨by show j ≤ (ts.map V.str).length; rw [List.length_map]; exact hj, fun m' => ?_⟩
  exact List.mem_append_right _ (.tail _ (List.mem_append_right _ (.head _)))
 ·rintro e I R' m m' τ' ⟨it, l, s', t', e', X, rfl, hj, rfl, rfl, rfl, h⟩ hsub
  refine A8 ?_
  refine ⟨Fm [] L m' τ, _, ?_, .refl _, rfl, m', ?_, rfl⟩
  ·exact List.Sublist.append (List.nil_sublist _) (.cons_cons _ (List.Sublist.trans (.cons _ (.cons _ (.refl _))) (List.sublist_append_right _ _)))
  ·exact fun x d h => hsub x d ((.cons (by kernel_rfl) (.cons (by kernel_rfl) (.cons (by kernel_rfl) .nil)) : Sub (law0 na sa) (lawM na sa B.bd D.due i qk)) x d h)
end
end Mine
namespace Mine
section
variable {g : G} {k : Nat} {τ σ R : Store} {Q : V → Store → Prop} {b : Nat} {L₀ : Addr} {m₀ : Loc} {env : Env}
noncomputable def LawQ : Fl → Store → Prop := fun fl _ => fl = Fl.ret (V.bool true)
set_option maxHeartbeats 8000000 in
theorem law_body {sa : Addr} {sc : List Int} (hs : Scr g sa sc) (hz : sc.length ≤ 1000) {L f : Addr} {cdv : Value} :
  W g (k + 12) IsFl (Fm [] L [(zs "script", V.ref sa)] []) (execs (stB (tS 64)) (envOf (zs "law") (stS (tS 64)) L f cdv)) LawQ := by
 conv in stB _ => whnf
 conv in stS _ => whnf
 refine A6 ?_
 refine AD ?_
 refine ET (gl_law_tags _) (kp_law_tags _) ?_
 refine law_tags_spec fun na => ?_
 refine AF ?_
 refine A6 ?_
 refine AD ?_
 refine Ah ?_
 refine A5 ?_
 refine Ah ?_
 refine A7 ?_
 refine ⟨sz_lit rfl, ?_⟩
 refine A5 ?_
 refine Ah ?_
 refine A5 ?_
 (refine Ac (xs := sL ["id", "x"]) ?ha ?hb ?_; (case ha => kernel_rfl); (case hb => kernel_rfl))
 refine A5 ?_
 (refine Ac (xs := sL ["form", "f"]) ?ha ?hb ?_; (case ha => kernel_rfl); (case hb => kernel_rfl))
 refine A7 ?_
 refine ⟨sz_lit rfl, ?_⟩
 refine A5 ?_
 refine Ah ?_
 refine A5 ?_
 (refine Ac (xs := sL ["title", "form"]) ?ha ?hb ?_; (case ha => kernel_rfl); (case hb => kernel_rfl))
 refine A7 ?_
 refine ⟨sz_lit rfl, ?_⟩
 refine A7 ?_
 refine ⟨sz_lit rfl, ?_⟩
 refine AF ?_
 refine A6 ?_
 refine Dl (L := L) (fun it I i R' m τ' => ∃ X, C5 (I = itR g it 0 1 8) (i ≤ 8) (R' = []) (m = law0 na sa) (τ' = X ++ [namesC na])) ?_ ?_ ?_ ?_
 ·refine Ap (DU _) rfl (by decide) ?_
  refine A5 ?_
  refine AL ?_
  refine A7 ?_
  refine G3 fun r => ?_
  exact ⟨[], law0 na sa, _, _, rfl, .cons (by kernel_rfl) (.cons (by kernel_rfl) (.cons (by kernel_rfl) .nil)), CY (by walk_at "mm") (Ij 8 (by decide)).2 (Ij 8 (by decide)).1 fun it => ⟨[_], rfl, Nat.zero_le _, rfl, rfl, rfl⟩⟩
 ·rintro it I i R' m τ' hlt ⟨X, rfl, hi, rfl, rfl, rfl⟩
  have hlt' : i < 8 := hlt
  have ei : (itR g it 0 1 8).item i = .int (i : Int) := congrArg V.int (by omega)
  rw [ei]
  obtain ⟨d, hd, text, ws, tags, ts, f0, u0, rfl, s1, hwl, hwa, s2, htl, hta⟩ := scn_ok i hlt'
  unfold law0
  refine AT ?_
  refine AF ?_
  refine A6 ?_
  refine Ha ?_
  refine AO ?_
  refine ET (gl_law_scenes _) (kp_law_scenes _) ?_
  refine HF ?_
  refine A4 rfl ?_
  refine CA (ds := scenes) (d := V.tup [.str text, .str tags, .int f0, .int u0]) i ?hx1 hd ?hx3 ?hx4 ?hx5 (hs := ?hx6)
  case hx6 => intro _ _; with_unfolding_all rfl
  case hx1 =>
   rw [show scenes.length = 8 from rfl]
   clear hs hd hlt hi ei
   obtain rfl | rfl | rfl | rfl | rfl | rfl | rfl | rfl : i = 0 ∨ i = 1 ∨ i = 2 ∨ i = 3 ∨ i = 4 ∨ i = 5 ∨ i = 6 ∨ i = 7 := by omega
   all_goals rfl
  case hx4 => omega
  case hx5 => omega
  refine C1 rfl ?_
  refine BB ?_
  refine AT ?_
  refine AF ?_
  refine BB ?_
  refine AT ?_
  refine AF ?_
  refine BB ?_
  refine AT ?_
  refine AF ?_
  refine BB ?_
  refine AT ?_
  refine AF ?_
  refine DJ ?_
  refine W.mono (law_scene (i := i) hs hz hlt' (List.mem_append_right _ (List.mem_append_right _ (.head _))) s1 hwl hwa s2 htl hta) ?_
  rintro fl σ' ⟨rfl, m', hsub, rfl⟩
  exact ⟨_, _, _, _, rfl, hsub, X, rfl, hlt', rfl, rfl, rfl⟩
 ·rintro it I i R' m τ' ⟨X, rfl, hi, rfl, rfl, rfl⟩
  exact ⟨hi, fun m' => trivial⟩
 ·rintro it I R' m m' τ' ⟨X, rfl, hi, rfl, rfl, rfl⟩ hsub
  refine A6 ?_
  refine AG ?_
  refine As ?_
  rfl
end
end Mine
namespace Mine
noncomputable def lawFd (pm cd doc : Value) : FuncData := docDef (zs "law") (stA (tS 64)) (stB (tS 64)) (stS (tS 64)) pm cd doc
theorem law_fn {g : G} {k : Nat} {fa : Addr} {o : Obj} {pm cd doc : Value} (ho : g.hb.get? fa = some o) (hd : o.data = .func (lawFd pm cd doc)) (hcd : g.hb.CodeRec cd (zs "law")) {sa : Addr} {sc : List Int} (hs : Scr g sa sc) (hz : sc.length ≤ 1000) :
  Fn g (k + 13) fa [.ref sa] [] fun d _ => d = .bool true := fun A r s vs S i => by
 obtain ⟨v, rfl, iv⟩ := G0 i
 obtain rfl := Ae iv
 refine codeAny_call_def (fd := lawFd pm cd doc) (body := stB (tS 64)) (binds := [(zs "script", .ref sa)]) r.room (S.keep _ _ ho) hd (g.T.nolimit.keeps S.keep) (hcd.keeps S.keep) rfl ?hbind ?hcell ?hloc (fun h₁ hns hk₁ => ?_) ?hco ?hgen ?hk
 case hco => kernel_rfl
 case hgen => kernel_rfl
 case hk => kernel_rfl
 case hbind => exact .of_eq (by kernel_rfl)
 case hcell => show ∀ x ∈ (stS (tS 64)).names, x.2 ≠ NameKind.cell; decide +kernel
 case hloc =>
  intro x hx
  rw [List.mem_singleton.mp hx]
  show (stS (tS 64)).names.lookup (zs "script") = some .local
  kernel_rfl
 have kp : Keeps s.heap h₁ := Keeps.of_all hk₁
 have S₁ : SGd g (Fm [] s.heap.objs.size [(zs "script", V.ref sa)] []) ((Hp s).at h₁) := S.alloc (σ := []) (τ := []) hk₁ (Nat.le_refl _) ⟨_, hns, fun x d e => ?_⟩
 refine wpAny_mono (law_body (k := k) (f := fa) (cdv := cd) hs hz _ (r.deeper _) { s with heap := h₁, toks := s.toks + 1 } S₁) (fun fl s' ⟨d, σ', x, S', kp', q⟩ => ?_) fun _ _ e => e.elim
 ·cases q
  cases x with
  | ret x => exact ⟨_, σ', x, S', kp.trans kp', rfl⟩
 ·exact (LocR.cons (.ref sa) .nil).lookup x d e
theorem ints_of {R : WRecords} {cl : Str → Option Addr} {h : Heap} : ∀ {vs : List Value} {xs : List WData} {as : List Addr}, ReadsAllW R cl h vs xs as → WShape.hasItems R xs .int = true → ∃ ns : List Int, ns.length = xs.length ∧ ∀ h', IsS h' vs (ns.map V.int) := by
 intro vs xs as r hi
 induction xs generalizing vs as with
 | nil => cases r; exact ⟨[], rfl, fun _ => .nil⟩
 | cons x xs ih =>
  cases r with
  | cons r1 r2 =>
   have hi : (WShape.has R x .int && WShape.hasItems R xs .int) = true := by simpa [WShape.hasItems] using hi
   obtain ⟨h1, h2⟩ := Bool.and_eq_true_iff.mp hi
   obtain ⟨i, rfl⟩ := hasW_int h1
   obtain ⟨ns, e, f⟩ := ih r2 h2
   cases r1
   exact ⟨i :: ns, by simp [e], fun h' => .cons (.int i _) (f h')⟩
theorem law_walk {q : Program} {loose : List Str} {XP : (Str → Option Value) → Heap → Prop} {YP : World → Heap → Prop} (hY : ∀ w h, YP w h → (gK w.params).In h) {pos : Pos} :
  WalkO q loose XP YP PySem.Challenge.rw_nt0616_01.row.toRowW ⟨zs "law", stA (tS 64), stB (tS 64), stS (tS 64), pos⟩ [] fun f vs => PySem.call f vs := by
 intro w s₀ s₁ mg mb GG Y fa o pm cd doc dV kV ho hd hcd hD hmg hg args vals as hpre hlay hrd hwl hlo
 have hsh := (pre_splitW hpre).1
 have hcond := (pre_splitW hpre).2
 obtain ⟨d0, r0, rfl, hx, hr⟩ := hasAllW_cons hsh
 obtain rfl := hasAllW_nil hr
 obtain ⟨xs, rfl, hi⟩ := hasW_list hx
 cases hrd with
 | cons r1 r2 =>
  cases r2
  cases r1 with
  | list ha hc hdt hall =>
   obtain ⟨ns, hlen, his⟩ := ints_of hall hi
   have hle : xs.length ≤ 63 := by
    have hcond' := condW_of hcond (by wtm_val)
    simp only [Bool.and_true, Bool.not_eq_true', decide_eq_false_iff_not] at hcond'
    omega
   have hdV : dV = .none := by
    rcases hD.pos with ⟨_, e⟩ | ⟨e, _⟩
    ·exact e
    ·exact absurd (by kernel_rfl) e
   have hkV : kV = .none := by
    rcases hD.kw with ⟨_, e⟩ | ⟨e, _⟩
    ·exact e
    ·exact absurd rfl e
   subst hdV hkV
   rename_i av o' vs n as'
   let g : G := ⟨s₁.os, s₁.gens, PySem.Challenge.rw_nt0616_01.row.toRowW.prog, w, s₁.heap, mg, mb, q, looseW q loose, hY _ _ Y, topRead_of GG.T⟩
   have hs : Scr g av ns := ⟨vs.toList, ⟨o', ha, hc, n, by rw [hdt]⟩, his⟩
   have S : SGd g [] (Hp s₁) := ⟨(fun p h => by cases h), List.nodup_nil, fun b o e => e, (fun p h => by cases h), (fun p h => by cases h), rfl, rfl⟩
   have r : Room callerA 13 := ⟨rfl, by decide +kernel, by decide +kernel⟩
   refine wpAny_mono ((law_fn (g := g) (k := 0) ho hd hcd hs (by omega)).call r S (.cons (.ref _) .nil) (Keeps.refl _)) (fun v s' ⟨d, σ', iv, S', kp, e⟩ => GoodW.toG ?_) fun _ _ e => e.elim
   subst e
   obtain rfl := HK iv
   exact ⟨.inl ⟨_, .bool true, [], rfl, fun _ => rfl, .bool true, by wrow_post, fun _ => ⟨List.nodup_nil, fun a h => by cases h⟩⟩, fun b o e => S'.keep b o e, S'.osq, S'.geq.trans hg⟩
end Mine
namespace Mine.hdx
theorem tw16286876664219943258:True:=⟨⟩
theorem tw347545360391822463:True:=⟨⟩
theorem tw3627049306912117131:True:=⟨⟩
theorem tw13735829593102162823:True:=⟨⟩
theorem tw3960337971062232222:True:=⟨⟩
theorem tw9215395058360357025:True:=⟨⟩
theorem tw549711235211712834:True:=⟨⟩
theorem tw10740176006691553143:True:=⟨⟩
theorem tw15042332034325960718:True:=⟨⟩
theorem tw14531365210256918122:True:=⟨⟩
theorem tw10733114353479128645:True:=⟨⟩
theorem tw3086717137963139412:True:=⟨⟩
theorem tw5693888961822732430:True:=⟨⟩
theorem tw4904516898885561357:True:=⟨⟩
theorem tw13643438856615710283:True:=⟨⟩
theorem tw7676166026698973523:True:=⟨⟩
theorem tw9739498329565824639:True:=⟨⟩
theorem tw9454522652109817695:True:=⟨⟩
theorem tw14554661646721776809:True:=⟨⟩
theorem tw17292223344690839085:True:=⟨⟩
theorem tw8035378987068426361:True:=⟨⟩
theorem tw17233892330436412615:True:=⟨⟩
theorem tw7822130126297858746:True:=⟨⟩
theorem tw17073587688187394439:True:=⟨⟩
theorem tw3745256487264532980:True:=⟨⟩
theorem tw3433789176290687875:True:=⟨⟩
theorem tw1539625948423359316:True:=⟨⟩
theorem tw983959705594079608:True:=⟨⟩
theorem tw11629336433674813117:True:=⟨⟩
theorem tw2103475244264289173:True:=⟨⟩
theorem tw12088185286174886481:True:=⟨⟩
theorem tw1276945570879339878:True:=⟨⟩
theorem tw10518538433653634186:True:=⟨⟩
theorem tw5841831902796037256:True:=⟨⟩
theorem tw3136240914309704336:True:=⟨⟩
theorem tw4452458946475927053:True:=⟨⟩
theorem tw5736788719038591171:True:=⟨⟩
theorem tw7121131041633636536:True:=⟨⟩
theorem tw16416123880811077864:True:=⟨⟩
theorem tw9337238921331946697:True:=⟨⟩
theorem tw6064360728823042819:True:=⟨⟩
theorem tw4207831604476061986:True:=⟨⟩
theorem tw11175419437428041417:True:=⟨⟩
theorem tw4967582798001087891:True:=⟨⟩
theorem tw3416068452288525512:True:=⟨⟩
theorem tw15912463313097693160:True:=⟨⟩
theorem tw4155522886790248743:True:=⟨⟩
theorem tw10297514276478950717:True:=⟨⟩
theorem tw3056725880364335713:True:=⟨⟩
theorem tw2541719386938028574:True:=⟨⟩
theorem tw17410701255328271796:True:=⟨⟩
theorem tw314759143075702307:True:=⟨⟩
theorem tw14632186484594187632:True:=⟨⟩
theorem tw17448138482231332884:True:=⟨⟩
theorem tw16542538608028186518:True:=⟨⟩
theorem tw18199524472991116618:True:=⟨⟩
theorem tw16302159872891563146:True:=⟨⟩
theorem tw752177461007384568:True:=⟨⟩
theorem tw18390342758081890369:True:=⟨⟩
theorem tw6641574594802563731:True:=⟨⟩
theorem tw1942456808507391848:True:=⟨⟩
theorem tw12191080504727595622:True:=⟨⟩
theorem tw11415878157005235841:True:=⟨⟩
theorem tw2259606151659811557:True:=⟨⟩
theorem tw9409537567691438086:True:=⟨⟩
theorem tw13788798177580229246:True:=⟨⟩
theorem tw15181962153147992974:True:=⟨⟩
theorem tw13627538104799191030:True:=⟨⟩
theorem tw6705419985462329557:True:=⟨⟩
theorem tw1995874101337085491:True:=⟨⟩
theorem tw4340546729041928502:True:=⟨⟩
theorem tw16250584863293933076:True:=⟨⟩
theorem tw3324409520595685040:True:=⟨⟩
theorem tw5440585394920044528:True:=⟨⟩
theorem tw10372654666669468546:True:=⟨⟩
theorem tw6218802765428309578:True:=⟨⟩
theorem tw14091130718805756139:True:=⟨⟩
theorem tw2285309917084211378:True:=⟨⟩
theorem tw2753864228944199815:True:=⟨⟩
theorem tw14228575590624932211:True:=⟨⟩
theorem tw8516185388746235783:True:=⟨⟩
theorem tw5008156392389439277:True:=⟨⟩
theorem tw6417378638471410451:True:=⟨⟩
theorem tw3047724923153992773:True:=⟨⟩
theorem tw11065668779459185880:True:=⟨⟩
theorem tw6304145221730877894:True:=⟨⟩
theorem tw1301301611952875276:True:=⟨⟩
theorem tw4192235915691096520:True:=⟨⟩
theorem tw8596624752337177864:True:=⟨⟩
theorem tw1226167070130839840:True:=⟨⟩
theorem tw12529615375237876898:True:=⟨⟩
theorem tw6087714596085187299:True:=⟨⟩
theorem tw890042185112865844:True:=⟨⟩
theorem tw16379262867650043668:True:=⟨⟩
theorem tw15300025475755986558:True:=⟨⟩
theorem tw11353802047059617677:True:=⟨⟩
theorem tw16694633086747645693:True:=⟨⟩
theorem tw9378060056265951212:True:=⟨⟩
theorem tw1017974057990222321:True:=⟨⟩
theorem tw8126802645191832046:True:=⟨⟩
theorem tw11410735609821309576:True:=⟨⟩
theorem tw10767507937327032825:True:=⟨⟩
theorem tw18400836527100259688:True:=⟨⟩
theorem tw7182978999254074707:True:=⟨⟩
theorem tw12313045728619779818:True:=⟨⟩
theorem tw637591128139111178:True:=⟨⟩
theorem tw2162575927991523003:True:=⟨⟩
theorem tw4438100243816028883:True:=⟨⟩
theorem tw13935753612304171169:True:=⟨⟩
theorem tw17729327682716250715:True:=⟨⟩
theorem tw18068904174802206907:True:=⟨⟩
theorem tw14293364945665918447:True:=⟨⟩
theorem tw7239288244179373339:True:=⟨⟩
theorem tw2783006680324142839:True:=⟨⟩
theorem tw5726638021608550986:True:=⟨⟩
theorem tw1577879315495093230:True:=⟨⟩
theorem tw4902819580303995104:True:=⟨⟩
theorem tw10745151996192879246:True:=⟨⟩
theorem tw6236653205645544583:True:=⟨⟩
theorem tw11088387094436019538:True:=⟨⟩
theorem tw15508324094980408293:True:=⟨⟩
theorem tw14561308196119246927:True:=⟨⟩
theorem tw11389905169207931035:True:=⟨⟩
theorem tw11912576296457597252:True:=⟨⟩
theorem tw12206936033622161790:True:=⟨⟩
theorem tw10492940953153682118:True:=⟨⟩
theorem tw11185148042668281505:True:=⟨⟩
theorem tw12841369549841986740:True:=⟨⟩
theorem tw18350826734470016196:True:=⟨⟩
theorem tw17258631066955539169:True:=⟨⟩
theorem tw10565359644913667529:True:=⟨⟩
theorem tw4346060600591594223:True:=⟨⟩
theorem tw3298644383375554705:True:=⟨⟩
theorem tw16518533654873897811:True:=⟨⟩
theorem tw3835774677364598174:True:=⟨⟩
theorem tw6489065641804638096:True:=⟨⟩
theorem tw10553677277013272664:True:=⟨⟩
theorem tw7843805564525388092:True:=⟨⟩
theorem tw1901344546337730168:True:=⟨⟩
theorem tw4622647316577264954:True:=⟨⟩
theorem tw15477648675234676925:True:=⟨⟩
theorem tw7256584030675297277:True:=⟨⟩
theorem tw16442587381078774434:True:=⟨⟩
theorem tw1600260125458631901:True:=⟨⟩
theorem tw3997858350130704898:True:=⟨⟩
theorem tw9155806303806056320:True:=⟨⟩
theorem tw5234135316920665115:True:=⟨⟩
theorem tw12023012282133076722:True:=⟨⟩
theorem tw13019106578233858662:True:=⟨⟩
theorem tw12572793683898010428:True:=⟨⟩
theorem tw6744445365745892259:True:=⟨⟩
theorem tw17134451673777903396:True:=⟨⟩
theorem tw3192341236944561261:True:=⟨⟩
theorem tw6071306460606938908:True:=⟨⟩
theorem tw4619951748407440113:True:=⟨⟩
theorem tw18438656992366880980:True:=⟨⟩
theorem tw14310578926822520241:True:=⟨⟩
theorem tw14674498631095517417:True:=⟨⟩
theorem tw14046126503405127149:True:=⟨⟩
theorem tw9243650270993775733:True:=⟨⟩
theorem tw16747530929944400022:True:=⟨⟩
theorem tw1728778503900741014:True:=⟨⟩
theorem tw1612877378314982390:True:=⟨⟩
theorem tw17979512189335682266:True:=⟨⟩
theorem tw10726335319461584156:True:=⟨⟩
theorem tw8446848040242426674:True:=⟨⟩
theorem tw13344463455011972175:True:=⟨⟩
theorem tw16839776992042190373:True:=⟨⟩
theorem tw17077628385286525834:True:=⟨⟩
theorem tw12233431095644687218:True:=⟨⟩
theorem tw7000784788702051307:True:=⟨⟩
theorem tw3116137049477036863:True:=⟨⟩
theorem tw15312384741200639085:True:=⟨⟩
theorem tw15105042441471227236:True:=⟨⟩
theorem tw15103987546285250539:True:=⟨⟩
theorem tw13384031556624935616:True:=⟨⟩
theorem tw3596971512788495902:True:=⟨⟩
theorem tw14503582180840072560:True:=⟨⟩
theorem tw6035231376133130789:True:=⟨⟩
theorem tw7493400405481521187:True:=⟨⟩
theorem tw15669899999854984184:True:=⟨⟩
theorem tw13853881831057575859:True:=⟨⟩
theorem tw11995305338208073157:True:=⟨⟩
theorem tw96845283051217670:True:=⟨⟩
theorem tw18228259563996767930:True:=⟨⟩
theorem tw12528308058140653161:True:=⟨⟩
theorem tw12804390310829103728:True:=⟨⟩
theorem tw12426778202675754560:True:=⟨⟩
theorem tw4415418087511430188:True:=⟨⟩
theorem tw8829778550334118440:True:=⟨⟩
theorem tw16284999700036597817:True:=⟨⟩
theorem tw13387379722443188762:True:=⟨⟩
theorem tw5161685149751793296:True:=⟨⟩
theorem tw3373635521702540245:True:=⟨⟩
theorem tw4273403668865710572:True:=⟨⟩
theorem tw16625122033094954414:True:=⟨⟩
theorem tw15943666578977287789:True:=⟨⟩
theorem tw5231109205170973173:True:=⟨⟩
theorem tw12298186587672302238:True:=⟨⟩
theorem tw14587561522913706892:True:=⟨⟩
theorem tw15107052735075931140:True:=⟨⟩
theorem tw10619718348026901829:True:=⟨⟩
theorem tw17795344055291574978:True:=⟨⟩
theorem tw11031618622515954054:True:=⟨⟩
theorem tw3893663342687946865:True:=⟨⟩
theorem tw665676548010448371:True:=⟨⟩
theorem tw11731706503861803045:True:=⟨⟩
theorem tw5165046168425032473:True:=⟨⟩
theorem tw7904908634351195939:True:=⟨⟩
theorem tw8330563435844095880:True:=⟨⟩
theorem tw8536179944795569344:True:=⟨⟩
theorem tw12634603101130419267:True:=⟨⟩
theorem tw7481949101025657400:True:=⟨⟩
theorem tw5672938064666031709:True:=⟨⟩
theorem tw16548396513794135620:True:=⟨⟩
theorem tw4334273201533730655:True:=⟨⟩
theorem tw17176066009548695861:True:=⟨⟩
theorem tw10393715042703082164:True:=⟨⟩
theorem tw12559474926555100820:True:=⟨⟩
theorem tw7767355764584403046:True:=⟨⟩
theorem tw9627238529951318062:True:=⟨⟩
theorem tw11813171326319645517:True:=⟨⟩
theorem tw11780668937714418546:True:=⟨⟩
theorem tw6442497058287005524:True:=⟨⟩
theorem tw9836663278179141963:True:=⟨⟩
theorem tw3427289769820836206:True:=⟨⟩
theorem tw3299699113575154979:True:=⟨⟩
theorem tw6253187992163815031:True:=⟨⟩
theorem tw5677198998247633345:True:=⟨⟩
theorem tw15315506500063428510:True:=⟨⟩
theorem tw7590559157060905207:True:=⟨⟩
theorem tw9191139972272322219:True:=⟨⟩
theorem tw6415178732456536823:True:=⟨⟩
theorem tw16447729871241616459:True:=⟨⟩
theorem tw6372502436261162972:True:=⟨⟩
theorem tw857393026579069334:True:=⟨⟩
theorem tw7343337105669707364:True:=⟨⟩
theorem tw6132807933449460935:True:=⟨⟩
theorem tw11216383909493743002:True:=⟨⟩
theorem tw4265658585226375059:True:=⟨⟩
theorem tw3278187458642560319:True:=⟨⟩
theorem tw1251214050578072604:True:=⟨⟩
theorem tw5989147006930209765:True:=⟨⟩
theorem tw13616904415746744921:True:=⟨⟩
theorem tw17129738948143370946:True:=⟨⟩
theorem tw3764027531234394611:True:=⟨⟩
theorem tw9615590616997732661:True:=⟨⟩
theorem tw3649686618335142941:True:=⟨⟩
theorem tw7239578808068180993:True:=⟨⟩
theorem tw3734849983947220652:True:=⟨⟩
theorem tw10227702916350360140:True:=⟨⟩
theorem tw5310904330300447732:True:=⟨⟩
theorem tw9890564971144185975:True:=⟨⟩
theorem tw2751376245015142808:True:=⟨⟩
theorem tw15582812530555895952:True:=⟨⟩
theorem tw14036578820445317307:True:=⟨⟩
theorem tw11442463069678907894:True:=⟨⟩
theorem tw3875636689961763025:True:=⟨⟩
theorem tw2066157463744864649:True:=⟨⟩
theorem tw812221560780467265:True:=⟨⟩
theorem tw4950585254653031142:True:=⟨⟩
theorem tw17723654121137702211:True:=⟨⟩
theorem tw3460922232659107040:True:=⟨⟩
theorem tw10655919233723434686:True:=⟨⟩
theorem tw17232792962541694011:True:=⟨⟩
theorem tw4537693066537608264:True:=⟨⟩
theorem tw15156886624178253958:True:=⟨⟩
theorem tw4556465615819868078:True:=⟨⟩
theorem tw16895206672942312801:True:=⟨⟩
theorem tw10965485233647490515:True:=⟨⟩
theorem tw8600207202693503665:True:=⟨⟩
theorem tw9948071108398369021:True:=⟨⟩
theorem tw18422934579809980840:True:=⟨⟩
theorem tw11578074195871968587:True:=⟨⟩
theorem tw10697293497772795115:True:=⟨⟩
theorem tw12478788136511962927:True:=⟨⟩
theorem tw1402843469623595557:True:=⟨⟩
theorem tw12523354309584168661:True:=⟨⟩
theorem tw4590757229835770955:True:=⟨⟩
theorem tw4360049065904520443:True:=⟨⟩
theorem tw16192687808343164068:True:=⟨⟩
theorem tw4139033357646193840:True:=⟨⟩
theorem tw11921755595414039708:True:=⟨⟩
theorem tw3865062840064598990:True:=⟨⟩
theorem tw12127751426241498694:True:=⟨⟩
theorem tw17625205242233350859:True:=⟨⟩
theorem tw11098343013482919944:True:=⟨⟩
theorem tw10020147929176390049:True:=⟨⟩
theorem tw11022615646088314183:True:=⟨⟩
theorem tw27263645103538727:True:=⟨⟩
theorem tw12900576416758664460:True:=⟨⟩
theorem tw5758483914130505782:True:=⟨⟩
theorem tw9840267665152315539:True:=⟨⟩
theorem tw13135874822188316698:True:=⟨⟩
theorem tw5564193849066042465:True:=⟨⟩
theorem tw4913432917359815903:True:=⟨⟩
theorem tw3547315504432945145:True:=⟨⟩
theorem tw9593306784295756071:True:=⟨⟩
theorem tw15730924038152993735:True:=⟨⟩
theorem tw4352105228579933090:True:=⟨⟩
theorem tw14428695005552035288:True:=⟨⟩
theorem tw15009272128565898884:True:=⟨⟩
theorem tw4126602148679785629:True:=⟨⟩
theorem tw17601081035908215487:True:=⟨⟩
theorem tw9589576453962272374:True:=⟨⟩
theorem tw14213383717507777500:True:=⟨⟩
theorem tw11212344799848542372:True:=⟨⟩
theorem tw1371935854870039326:True:=⟨⟩
theorem tw8020893750639294887:True:=⟨⟩
theorem tw1192885790850840728:True:=⟨⟩
theorem tw3564287663811300862:True:=⟨⟩
theorem tw3916052703709344891:True:=⟨⟩
theorem tw11693044842656024501:True:=⟨⟩
theorem tw10283324217907189409:True:=⟨⟩
theorem tw14433594377317562107:True:=⟨⟩
theorem tw13312968117484404544:True:=⟨⟩
theorem tw7207175147274332784:True:=⟨⟩
theorem tw8119540684395119108:True:=⟨⟩
theorem tw803973511626003325:True:=⟨⟩
theorem tw4141054045944905157:True:=⟨⟩
theorem tw9277130088594696219:True:=⟨⟩
theorem tw4646814216031308605:True:=⟨⟩
theorem tw6610063999567671740:True:=⟨⟩
theorem tw17129212331664630177:True:=⟨⟩
theorem tw14633853578810120593:True:=⟨⟩
theorem tw6308484492327671887:True:=⟨⟩
theorem tw6697547145641553894:True:=⟨⟩
theorem tw66766952702724116:True:=⟨⟩
theorem tw6748099376715480053:True:=⟨⟩
theorem tw1082102485769527193:True:=⟨⟩
theorem tw17675035837370099154:True:=⟨⟩
theorem tw7662359130371279450:True:=⟨⟩
theorem tw15031074178914213187:True:=⟨⟩
theorem tw3524697360441884950:True:=⟨⟩
theorem tw3379344007999211273:True:=⟨⟩
theorem tw18298627947082888943:True:=⟨⟩
theorem tw10995585114878408033:True:=⟨⟩
theorem tw9896213848734680689:True:=⟨⟩
theorem tw940491495621676967:True:=⟨⟩
theorem tw12445566163321100736:True:=⟨⟩
theorem tw17002187697674153272:True:=⟨⟩
theorem tw1513042972267033221:True:=⟨⟩
theorem tw14823572216078527250:True:=⟨⟩
theorem tw4676875818337250434:True:=⟨⟩
theorem tw3098200238673211559:True:=⟨⟩
theorem tw12377052039469004303:True:=⟨⟩
theorem tw113078107313995336:True:=⟨⟩
theorem tw8482859592523415562:True:=⟨⟩
theorem tw6253104955452660297:True:=⟨⟩
theorem tw18286027979463380372:True:=⟨⟩
theorem tw17277615461539122972:True:=⟨⟩
theorem tw13948280008848169235:True:=⟨⟩
theorem tw8108097299347669977:True:=⟨⟩
theorem tw17435241772864063569:True:=⟨⟩
theorem tw3034495739420485957:True:=⟨⟩
theorem tw8446709607023735811:True:=⟨⟩
theorem tw2843142823915918097:True:=⟨⟩
theorem tw3959075056703957716:True:=⟨⟩
theorem tw15834383266715129711:True:=⟨⟩
theorem tw3399416878058748289:True:=⟨⟩
theorem tw16281044257968913310:True:=⟨⟩
theorem tw13955130793777900815:True:=⟨⟩
theorem tw15999719632867723441:True:=⟨⟩
theorem tw2166871309037259046:True:=⟨⟩
theorem tw5392890752332996581:True:=⟨⟩
theorem tw13020444556575899353:True:=⟨⟩
theorem tw14074396743861129520:True:=⟨⟩
theorem tw11737843829205802642:True:=⟨⟩
theorem tw14570875228864844752:True:=⟨⟩
theorem tw11658233512896691747:True:=⟨⟩
theorem tw12112024463703064620:True:=⟨⟩
theorem tw8719876675371813694:True:=⟨⟩
theorem tw4512557399437772770:True:=⟨⟩
theorem tw8805716680502671301:True:=⟨⟩
theorem tw8980818605159307037:True:=⟨⟩
theorem tw9543467849996129500:True:=⟨⟩
theorem tw15345905408385276938:True:=⟨⟩
theorem tw14012388058838257954:True:=⟨⟩
theorem tw16362415112987247143:True:=⟨⟩
theorem tw12281017881881923306:True:=⟨⟩
theorem tw12413252297768920577:True:=⟨⟩
theorem tw1332913369071824322:True:=⟨⟩
theorem tw10726290257276626454:True:=⟨⟩
theorem tw10589443168317414825:True:=⟨⟩
theorem tw3027028101811844097:True:=⟨⟩
theorem tw12825538859698653366:True:=⟨⟩
theorem tw4005153839263176976:True:=⟨⟩
theorem tw8015430348058212607:True:=⟨⟩
theorem tw2219696233899069123:True:=⟨⟩
theorem tw15833562081031671975:True:=⟨⟩
theorem tw1122332780463582656:True:=⟨⟩
theorem tw12727159676433739671:True:=⟨⟩
theorem tw12953921989140058184:True:=⟨⟩
theorem tw11945260732277615545:True:=⟨⟩
theorem tw8766595310397512691:True:=⟨⟩
theorem tw9550864123062989849:True:=⟨⟩
theorem tw13112909101138109313:True:=⟨⟩
theorem tw15109564932040989350:True:=⟨⟩
theorem tw5518913457677203722:True:=⟨⟩
theorem tw18009230677803375801:True:=⟨⟩
theorem tw7502298529269672243:True:=⟨⟩
theorem tw17075150009419757640:True:=⟨⟩
theorem tw10121793167571375384:True:=⟨⟩
theorem tw1478601116228193462:True:=⟨⟩
theorem tw11388591071182995016:True:=⟨⟩
theorem tw5432043993808433227:True:=⟨⟩
theorem tw13049595843364092463:True:=⟨⟩
theorem tw12297036065839558367:True:=⟨⟩
theorem tw11493284868476642095:True:=⟨⟩
theorem tw6358438401086547049:True:=⟨⟩
theorem tw2422354323177594152:True:=⟨⟩
theorem tw2051692247841628895:True:=⟨⟩
theorem tw10435778481059651003:True:=⟨⟩
theorem tw13745525055773661489:True:=⟨⟩
theorem tw16408230632488777019:True:=⟨⟩
theorem tw10901133129360472794:True:=⟨⟩
theorem tw14788442302693946358:True:=⟨⟩
theorem tw280175094144319643:True:=⟨⟩
theorem tw13584252402403289962:True:=⟨⟩
theorem tw8772693229765227635:True:=⟨⟩
theorem tw8228918394181964798:True:=⟨⟩
theorem tw9045959809783841308:True:=⟨⟩
theorem tw362009259490291869:True:=⟨⟩
theorem tw15898304069716857738:True:=⟨⟩
theorem tw18033399713576134831:True:=⟨⟩
theorem tw16252849800747116556:True:=⟨⟩
theorem tw8441336199095553518:True:=⟨⟩
theorem tw12331383661426589313:True:=⟨⟩
theorem tw13129703820758474196:True:=⟨⟩
theorem tw6146004956232426578:True:=⟨⟩
theorem tw15671598221465228534:True:=⟨⟩
theorem tw4424755156212194265:True:=⟨⟩
theorem tw5630239216004255137:True:=⟨⟩
theorem tw6564293493641596569:True:=⟨⟩
theorem tw6886850702434502615:True:=⟨⟩
theorem tw11385461451743869274:True:=⟨⟩
theorem tw5406008801441316737:True:=⟨⟩
theorem tw10906071288286292882:True:=⟨⟩
theorem tw16596626063930379043:True:=⟨⟩
theorem tw4838250552842157455:True:=⟨⟩
theorem tw3901545759909005629:True:=⟨⟩
theorem tw9431974635335623008:True:=⟨⟩
theorem tw2896291089745512870:True:=⟨⟩
theorem tw7476865303756571663:True:=⟨⟩
theorem tw750123668232066156:True:=⟨⟩
theorem tw13189765380993777547:True:=⟨⟩
theorem tw8858098354521700199:True:=⟨⟩
theorem tw16535174256780669495:True:=⟨⟩
theorem tw7486210639920459629:True:=⟨⟩
theorem tw12206552368688933907:True:=⟨⟩
theorem tw18415692690662700267:True:=⟨⟩
theorem tw18431967259697351972:True:=⟨⟩
theorem tw9687496918046235438:True:=⟨⟩
theorem tw2496722450284120459:True:=⟨⟩
theorem tw16433662872426479686:True:=⟨⟩
theorem tw8294542176271583782:True:=⟨⟩
theorem tw3960048001793525606:True:=⟨⟩
theorem tw8594426482672012323:True:=⟨⟩
theorem tw12450283207043271131:True:=⟨⟩
theorem tw9071164621238087277:True:=⟨⟩
theorem tw8022705790335907359:True:=⟨⟩
theorem tw853294508456700176:True:=⟨⟩
theorem tw226046263476958514:True:=⟨⟩
theorem tw7451896852629062016:True:=⟨⟩
theorem tw2876537673947529542:True:=⟨⟩
theorem tw3709209062388683010:True:=⟨⟩
theorem tw17915636754408615973:True:=⟨⟩
theorem tw1710429273067249683:True:=⟨⟩
theorem tw14606245878660997911:True:=⟨⟩
theorem tw17499841780572447534:True:=⟨⟩
theorem tw13338566791733452661:True:=⟨⟩
theorem tw8884972089485434233:True:=⟨⟩
theorem tw6001971561257207051:True:=⟨⟩
theorem tw10244247566685197705:True:=⟨⟩
theorem tw10641399845043899351:True:=⟨⟩
theorem tw14171576231795867107:True:=⟨⟩
theorem tw925623105258950868:True:=⟨⟩
theorem tw3610616616002092444:True:=⟨⟩
theorem tw13290664575460695550:True:=⟨⟩
theorem tw239729948023750331:True:=⟨⟩
theorem tw5780623148735161950:True:=⟨⟩
theorem tw15034822990241770971:True:=⟨⟩
theorem tw7279435788598742158:True:=⟨⟩
theorem tw11648436998082993521:True:=⟨⟩
theorem tw8484284954665956622:True:=⟨⟩
theorem tw16047399808432013323:True:=⟨⟩
theorem tw15830262602708951874:True:=⟨⟩
theorem tw10217665054196928255:True:=⟨⟩
theorem tw15174282228005035574:True:=⟨⟩
theorem tw2134546921652847040:True:=⟨⟩
theorem tw3522473756258067556:True:=⟨⟩
theorem tw4560174921359314643:True:=⟨⟩
theorem tw13756778815865896503:True:=⟨⟩
theorem tw18392201990104315986:True:=⟨⟩
theorem tw16353900687420405806:True:=⟨⟩
theorem tw2903084700506450444:True:=⟨⟩
theorem tw1877876918177034313:True:=⟨⟩
theorem tw16222842637118866441:True:=⟨⟩
theorem tw3593019715707843614:True:=⟨⟩
theorem tw3645669340912716563:True:=⟨⟩
theorem tw16845448632455812324:True:=⟨⟩
theorem tw3985868190832041663:True:=⟨⟩
theorem tw16898790447998736988:True:=⟨⟩
theorem tw18026616946130045295:True:=⟨⟩
theorem tw14913751445013925080:True:=⟨⟩
theorem tw4428784666524969645:True:=⟨⟩
theorem tw4090310906237504308:True:=⟨⟩
theorem tw3944584140546403621:True:=⟨⟩
theorem tw9177920245120700719:True:=⟨⟩
theorem tw12325224503386750664:True:=⟨⟩
theorem tw17748507856745667594:True:=⟨⟩
theorem tw12871607241964722479:True:=⟨⟩
theorem tw1171547857244601873:True:=⟨⟩
theorem tw11522366763458423193:True:=⟨⟩
theorem tw851837672301890471:True:=⟨⟩
theorem tw15659053357762973569:True:=⟨⟩
theorem tw9810292845843084826:True:=⟨⟩
theorem tw7210036199390307647:True:=⟨⟩
theorem tw12452461576265453900:True:=⟨⟩
theorem tw16969194809569077371:True:=⟨⟩
theorem tw12626336718028275067:True:=⟨⟩
theorem tw3828815567933556792:True:=⟨⟩
theorem tw1044675440534995279:True:=⟨⟩
theorem tw8461092197124555767:True:=⟨⟩
theorem tw3221327863354945574:True:=⟨⟩
theorem tw17180709000859715373:True:=⟨⟩
theorem tw18019414548722637370:True:=⟨⟩
theorem tw11078440211413924588:True:=⟨⟩
theorem tw12074549039828777048:True:=⟨⟩
theorem tw12352946444216290223:True:=⟨⟩
theorem tw1677525623199249059:True:=⟨⟩
theorem tw894209289440126003:True:=⟨⟩
theorem tw17894640761728446936:True:=⟨⟩
theorem tw17133872157284343099:True:=⟨⟩
theorem tw8394299452072268301:True:=⟨⟩
theorem tw5125986054027009693:True:=⟨⟩
theorem tw12030032759238858242:True:=⟨⟩
theorem tw373604258484869727:True:=⟨⟩
theorem tw10568187478674407447:True:=⟨⟩
theorem tw13532250965683794762:True:=⟨⟩
theorem tw11371883911050253117:True:=⟨⟩
theorem tw4888955380684523969:True:=⟨⟩
theorem tw2872614075417793213:True:=⟨⟩
theorem tw11233821810271452931:True:=⟨⟩
theorem tw13776139538540017470:True:=⟨⟩
theorem tw711315453752034009:True:=⟨⟩
theorem tw7533409814886026118:True:=⟨⟩
theorem tw14702973994033459314:True:=⟨⟩
theorem tw4786122730814515840:True:=⟨⟩
theorem tw8366657424049280243:True:=⟨⟩
theorem tw14015681384436167552:True:=⟨⟩
theorem tw12372965305602469273:True:=⟨⟩
theorem tw16673624513394506046:True:=⟨⟩
theorem tw81533254705911265:True:=⟨⟩
theorem tw3608922110835600088:True:=⟨⟩
theorem tw1479831794059858176:True:=⟨⟩
theorem tw12052765825483242615:True:=⟨⟩
theorem tw11952018256116778510:True:=⟨⟩
theorem tw8442850642371093264:True:=⟨⟩
theorem tw9896070276289152950:True:=⟨⟩
theorem tw14750639044748242894:True:=⟨⟩
theorem tw7864919861250453534:True:=⟨⟩
theorem tw13104435317923764781:True:=⟨⟩
theorem tw14761791587780659971:True:=⟨⟩
theorem tw13832610719791836731:True:=⟨⟩
theorem tw370734680809381548:True:=⟨⟩
theorem tw14478423609326988682:True:=⟨⟩
theorem tw3603241132631158879:True:=⟨⟩
theorem tw9172263793503938343:True:=⟨⟩
theorem tw1488131545338704536:True:=⟨⟩
theorem tw3412117000099605131:True:=⟨⟩
theorem tw1143833212419383424:True:=⟨⟩
theorem tw16858660897985422125:True:=⟨⟩
theorem tw18322439672212781402:True:=⟨⟩
theorem tw1005318883390151209:True:=⟨⟩
theorem tw11436007071044041387:True:=⟨⟩
theorem tw11584205359766472284:True:=⟨⟩
theorem tw2121202831930379742:True:=⟨⟩
theorem tw10501800621284533928:True:=⟨⟩
theorem tw1493228951320136469:True:=⟨⟩
theorem tw2600615399674085866:True:=⟨⟩
theorem tw6433729911373238517:True:=⟨⟩
theorem tw1986813212416632876:True:=⟨⟩
theorem tw4309283326998007063:True:=⟨⟩
theorem tw5962897292348685790:True:=⟨⟩
theorem tw17746502219179709538:True:=⟨⟩
theorem tw9128519100761775124:True:=⟨⟩
theorem tw16021554855694623688:True:=⟨⟩
theorem tw17847513712020367905:True:=⟨⟩
theorem tw592208218567672208:True:=⟨⟩
theorem tw14077443313046390417:True:=⟨⟩
theorem tw5424274991465929665:True:=⟨⟩
theorem tw18209906880494095197:True:=⟨⟩
theorem tw2799840060570126813:True:=⟨⟩
theorem tw11841441347127782364:True:=⟨⟩
theorem tw13583782270701267162:True:=⟨⟩
theorem tw5065960381556720169:True:=⟨⟩
theorem tw15431676669900571147:True:=⟨⟩
theorem tw10602525772430000673:True:=⟨⟩
theorem tw1552349599394581083:True:=⟨⟩
theorem tw15687922160928513878:True:=⟨⟩
theorem tw4250239842518720443:True:=⟨⟩
theorem tw12166505169460555372:True:=⟨⟩
theorem tw14563479125080036110:True:=⟨⟩
theorem tw11697588484477342707:True:=⟨⟩
theorem tw11495857418718629223:True:=⟨⟩
theorem tw15709162519248931360:True:=⟨⟩
theorem tw4849328358135419483:True:=⟨⟩
theorem tw14779928052246003348:True:=⟨⟩
theorem tw9317015632607213815:True:=⟨⟩
theorem tw14575163931095405474:True:=⟨⟩
theorem tw9520330096098350640:True:=⟨⟩
theorem tw8265031287849458461:True:=⟨⟩
theorem tw13717530880629798888:True:=⟨⟩
theorem tw5032983482192344240:True:=⟨⟩
theorem tw17901021365655696678:True:=⟨⟩
theorem tw9146131063442480411:True:=⟨⟩
theorem tw3492761726097555513:True:=⟨⟩
theorem tw7654691229531048268:True:=⟨⟩
theorem tw15265395486962813422:True:=⟨⟩
theorem tw16184355267210269843:True:=⟨⟩
theorem tw14988176743841305062:True:=⟨⟩
theorem tw16473633714598866148:True:=⟨⟩
theorem tw1153378650706184211:True:=⟨⟩
theorem tw8212705579055854512:True:=⟨⟩
theorem tw701240928722511875:True:=⟨⟩
theorem tw542136186996400314:True:=⟨⟩
theorem tw8449628116929862086:True:=⟨⟩
theorem tw11370644564039191686:True:=⟨⟩
theorem tw4465250232988750101:True:=⟨⟩
theorem tw6649976812566562612:True:=⟨⟩
theorem tw733187150190197927:True:=⟨⟩
theorem tw8307081759096986236:True:=⟨⟩
theorem tw2848236358606969635:True:=⟨⟩
theorem tw1326228109594366679:True:=⟨⟩
theorem tw2984043997054306990:True:=⟨⟩
theorem tw16403614330401555828:True:=⟨⟩
theorem tw8915100234691599568:True:=⟨⟩
theorem tw17119747769798695222:True:=⟨⟩
theorem tw10639831933788940429:True:=⟨⟩
theorem tw5350543311230756584:True:=⟨⟩
theorem tw1761263280457242910:True:=⟨⟩
theorem tw15655447965020286064:True:=⟨⟩
theorem tw6445625679090876641:True:=⟨⟩
theorem tw12234156127385616618:True:=⟨⟩
theorem tw2804849314950835914:True:=⟨⟩
theorem tw15831210970691702606:True:=⟨⟩
theorem tw2178676106264117391:True:=⟨⟩
theorem tw5446182076891955137:True:=⟨⟩
theorem tw14557141412712100878:True:=⟨⟩
theorem tw6663216703098371146:True:=⟨⟩
theorem tw4238795522253843017:True:=⟨⟩
theorem tw5150076709410974968:True:=⟨⟩
theorem tw5733060583114533983:True:=⟨⟩
theorem tw10406150872936748529:True:=⟨⟩
theorem tw2524096817800104532:True:=⟨⟩
theorem tw12468562060303526228:True:=⟨⟩
theorem tw841801336619253232:True:=⟨⟩
theorem tw10173641090952190540:True:=⟨⟩
theorem tw10830873270671683514:True:=⟨⟩
theorem tw17442969993681058771:True:=⟨⟩
theorem tw5207263921046927410:True:=⟨⟩
theorem tw3189447371867627780:True:=⟨⟩
theorem tw10902345548827120994:True:=⟨⟩
theorem tw10441041258344599749:True:=⟨⟩
theorem tw13913807910263611591:True:=⟨⟩
theorem tw6480801168928302248:True:=⟨⟩
theorem tw7481493506872257172:True:=⟨⟩
theorem tw13348473628669366684:True:=⟨⟩
theorem tw9164870346783607748:True:=⟨⟩
theorem tw3744299937423888265:True:=⟨⟩
theorem tw16385608554060627104:True:=⟨⟩
theorem tw13595457875619926604:True:=⟨⟩
theorem tw13034964332145957160:True:=⟨⟩
theorem tw17882905331904331677:True:=⟨⟩
theorem tw590745312252136867:True:=⟨⟩
theorem tw7929344018686475116:True:=⟨⟩
theorem tw1918623227336427407:True:=⟨⟩
theorem tw8344658196378963514:True:=⟨⟩
theorem tw1721904051972012981:True:=⟨⟩
theorem tw12297376541529781043:True:=⟨⟩
theorem tw2025156529309342048:True:=⟨⟩
theorem tw743125714558725742:True:=⟨⟩
theorem tw15571987202388652198:True:=⟨⟩
theorem tw14815508001251243138:True:=⟨⟩
theorem tw1818897831268916068:True:=⟨⟩
theorem tw5212985498074035729:True:=⟨⟩
theorem tw6011522048399101297:True:=⟨⟩
theorem tw6657362795556204043:True:=⟨⟩
theorem tw16964379784204986463:True:=⟨⟩
theorem tw3499749315779059354:True:=⟨⟩
theorem tw560062836417571701:True:=⟨⟩
theorem tw9992148659755696557:True:=⟨⟩
theorem tw11541386997860065953:True:=⟨⟩
theorem tw11577225469500156739:True:=⟨⟩
theorem tw4272039603487025519:True:=⟨⟩
theorem tw6392203597269669241:True:=⟨⟩
theorem tw15368086413713276134:True:=⟨⟩
theorem tw1007150554968384756:True:=⟨⟩
theorem tw4370342527003257976:True:=⟨⟩
theorem tw10971520947419969797:True:=⟨⟩
theorem tw3366843556557904476:True:=⟨⟩
theorem tw18071371152909366962:True:=⟨⟩
theorem tw15786365921260868098:True:=⟨⟩
theorem tw8604352893467490280:True:=⟨⟩
theorem tw3267943344091305502:True:=⟨⟩
theorem tw13914514510331185930:True:=⟨⟩
theorem tw5354003688027962353:True:=⟨⟩
theorem tw16127838427017963456:True:=⟨⟩
theorem tw7042252339727963762:True:=⟨⟩
theorem tw15342383930939829785:True:=⟨⟩
theorem tw7094753472643904059:True:=⟨⟩
theorem tw11862172838782498624:True:=⟨⟩
theorem tw11515147229649130612:True:=⟨⟩
theorem tw13278934646580758228:True:=⟨⟩
theorem tw2134821377660890168:True:=⟨⟩
theorem tw15202706853207904432:True:=⟨⟩
theorem tw1685204610349894430:True:=⟨⟩
theorem tw8754884766819145787:True:=⟨⟩
theorem tw5181138376618889655:True:=⟨⟩
theorem tw7828176740706068276:True:=⟨⟩
theorem tw13691374970080526766:True:=⟨⟩
theorem tw616650097164417749:True:=⟨⟩
theorem tw15953631855897718461:True:=⟨⟩
theorem tw12408425119642934642:True:=⟨⟩
theorem tw9432352663938641985:True:=⟨⟩
theorem tw2332179854472702555:True:=⟨⟩
theorem tw17806877144198043587:True:=⟨⟩
theorem tw4355560026944110611:True:=⟨⟩
theorem tw12393748622769706067:True:=⟨⟩
theorem tw1434740809948872380:True:=⟨⟩
theorem tw10905740778352272335:True:=⟨⟩
theorem tw4247033648575023744:True:=⟨⟩
theorem tw1233173385255624955:True:=⟨⟩
theorem tw11581373274737533026:True:=⟨⟩
theorem tw14650242626018051126:True:=⟨⟩
theorem tw613346103937524339:True:=⟨⟩
theorem tw11633907778949462731:True:=⟨⟩
theorem tw1019153260373610705:True:=⟨⟩
theorem tw7679074778234120773:True:=⟨⟩
theorem tw3391634660313547014:True:=⟨⟩
theorem tw13116041109664319721:True:=⟨⟩
theorem tw6334376853725197808:True:=⟨⟩
theorem tw14852567329873060914:True:=⟨⟩
theorem tw3024545019654037646:True:=⟨⟩
theorem tw14153556339064693154:True:=⟨⟩
theorem tw13313247240025936651:True:=⟨⟩
theorem tw1768644057870189812:True:=⟨⟩
theorem tw13406769057357949175:True:=⟨⟩
theorem tw15898802137300699292:True:=⟨⟩
theorem tw6295140979041161991:True:=⟨⟩
theorem tw6421609248021897595:True:=⟨⟩
theorem tw17265215353762615936:True:=⟨⟩
theorem tw7382874535813935119:True:=⟨⟩
theorem tw17282606970882144060:True:=⟨⟩
theorem tw3970521946290977509:True:=⟨⟩
theorem tw7293290728455054780:True:=⟨⟩
theorem tw6130610383737089894:True:=⟨⟩
theorem tw14509752947792529248:True:=⟨⟩
theorem tw18130614847769693563:True:=⟨⟩
theorem tw14303011803390168540:True:=⟨⟩
theorem tw18135946104063847360:True:=⟨⟩
theorem tw12134989247200065487:True:=⟨⟩
theorem tw6774766282073202948:True:=⟨⟩
theorem tw16827486929542041072:True:=⟨⟩
theorem tw11675466698208403116:True:=⟨⟩
theorem tw17711619165454217612:True:=⟨⟩
theorem tw14947159289006789855:True:=⟨⟩
theorem tw2487067324442346970:True:=⟨⟩
theorem tw1263778885719651339:True:=⟨⟩
theorem tw17232349515195586196:True:=⟨⟩
theorem tw17972888412607548890:True:=⟨⟩
theorem tw13026284888198104528:True:=⟨⟩
theorem tw11657417026846058629:True:=⟨⟩
theorem tw1757383431492941107:True:=⟨⟩
theorem tw2854212090634251903:True:=⟨⟩
theorem tw5860561463905877471:True:=⟨⟩
theorem tw16059347918995972302:True:=⟨⟩
theorem tw12710407045204606515:True:=⟨⟩
theorem tw4000503121920272289:True:=⟨⟩
theorem tw15943783896114880793:True:=⟨⟩
theorem tw12270482689491513466:True:=⟨⟩
theorem tw10390044250589280487:True:=⟨⟩
theorem tw3665795802926786903:True:=⟨⟩
theorem tw682936352443621598:True:=⟨⟩
theorem tw2474982830361132465:True:=⟨⟩
theorem tw4412883143714298560:True:=⟨⟩
theorem tw2297903547492848532:True:=⟨⟩
theorem tw16235306883204913288:True:=⟨⟩
theorem tw10089095841652755546:True:=⟨⟩
theorem tw7414119048749298792:True:=⟨⟩
theorem tw4290668688557327210:True:=⟨⟩
theorem tw12224949203739208165:True:=⟨⟩
theorem tw13331389132668992040:True:=⟨⟩
theorem tw8816420661344716764:True:=⟨⟩
theorem tw2532796230417428423:True:=⟨⟩
theorem tw12801157613744815678:True:=⟨⟩
theorem tw7318471463460347990:True:=⟨⟩
theorem tw5453493649429434225:True:=⟨⟩
theorem tw13903534762394701311:True:=⟨⟩
theorem tw1862717869766461714:True:=⟨⟩
theorem tw6774499311484625086:True:=⟨⟩
theorem tw17987786931945679596:True:=⟨⟩
theorem tw6045054353726228275:True:=⟨⟩
theorem tw8386852644859955905:True:=⟨⟩
theorem tw18066169103088537129:True:=⟨⟩
theorem tw10951607000393433550:True:=⟨⟩
theorem tw6377865646352278251:True:=⟨⟩
theorem tw16155816024692220121:True:=⟨⟩
theorem tw11364332641633417625:True:=⟨⟩
theorem tw14400179843994914522:True:=⟨⟩
theorem tw18427672949982962225:True:=⟨⟩
theorem tw1837063588802439824:True:=⟨⟩
theorem tw13750623676129733325:True:=⟨⟩
theorem tw8555955137914357800:True:=⟨⟩
theorem tw7520375891198584830:True:=⟨⟩
theorem tw8215340011703645560:True:=⟨⟩
theorem tw12504418809960602757:True:=⟨⟩
theorem tw4331486450797567762:True:=⟨⟩
theorem tw16812959420186268397:True:=⟨⟩
theorem tw11602720935865930676:True:=⟨⟩
theorem tw9566865079333569918:True:=⟨⟩
theorem tw8352499636815896096:True:=⟨⟩
theorem tw15398732277716625270:True:=⟨⟩
theorem tw5638325719076014852:True:=⟨⟩
theorem tw13764250393621081002:True:=⟨⟩
theorem tw7938622847886757993:True:=⟨⟩
theorem tw4826020606190435052:True:=⟨⟩
theorem tw16836577841590994141:True:=⟨⟩
theorem tw9821625207191491728:True:=⟨⟩
theorem tw3501709826607874653:True:=⟨⟩
theorem tw10664129843259958398:True:=⟨⟩
theorem tw10084335929097966587:True:=⟨⟩
theorem tw10430561835331045333:True:=⟨⟩
theorem tw1421185643081942070:True:=⟨⟩
theorem tw12053415283062446998:True:=⟨⟩
theorem tw13987880881672528783:True:=⟨⟩
theorem tw4232028495543588384:True:=⟨⟩
theorem tw4742589536181072760:True:=⟨⟩
theorem tw8405190994571264941:True:=⟨⟩
theorem tw654902100672316387:True:=⟨⟩
theorem tw15931822841783123622:True:=⟨⟩
theorem tw6967703748595865944:True:=⟨⟩
theorem tw17243429701590529020:True:=⟨⟩
theorem tw6982377764206668994:True:=⟨⟩
theorem tw568015977243730729:True:=⟨⟩
theorem tw17622441146459842484:True:=⟨⟩
theorem tw12357616504132851930:True:=⟨⟩
theorem tw2814366135791808946:True:=⟨⟩
theorem tw5262276269443317064:True:=⟨⟩
theorem tw11078147574864786731:True:=⟨⟩
theorem tw1885413802745676778:True:=⟨⟩
theorem tw16486609953897065682:True:=⟨⟩
theorem tw16678223327191222261:True:=⟨⟩
theorem tw14592057729090274143:True:=⟨⟩
theorem tw3028743508504213235:True:=⟨⟩
theorem tw15417473800259947083:True:=⟨⟩
theorem tw11575508544117185540:True:=⟨⟩
theorem tw12512269103224751706:True:=⟨⟩
theorem tw113851431961856068:True:=⟨⟩
theorem tw15717791139924200532:True:=⟨⟩
theorem tw7190204759224369055:True:=⟨⟩
theorem tw15388619720748698437:True:=⟨⟩
theorem tw17849728736606728614:True:=⟨⟩
theorem tw5985232166639502999:True:=⟨⟩
theorem tw3952931942233925166:True:=⟨⟩
theorem tw15339568893446973742:True:=⟨⟩
theorem tw12760331639890628780:True:=⟨⟩
theorem tw17595401478614777575:True:=⟨⟩
theorem tw7251834755087763782:True:=⟨⟩
theorem tw865094774283045854:True:=⟨⟩
theorem tw17701526787073945742:True:=⟨⟩
theorem tw3311770571600620381:True:=⟨⟩
theorem tw319792305991530512:True:=⟨⟩
theorem tw16452041225437585429:True:=⟨⟩
theorem tw17989029761867918806:True:=⟨⟩
theorem tw295011790522727527:True:=⟨⟩
theorem tw13600512375935098893:True:=⟨⟩
theorem tw15399983917080268093:True:=⟨⟩
theorem tw6110739654953736741:True:=⟨⟩
theorem tw4627526434441176054:True:=⟨⟩
theorem tw4332073541344451168:True:=⟨⟩
theorem tw1294143798949084492:True:=⟨⟩
theorem tw17174540433398791919:True:=⟨⟩
theorem tw10669027340675136436:True:=⟨⟩
theorem tw7992554359472909536:True:=⟨⟩
theorem tw6141538238860004499:True:=⟨⟩
theorem tw17665737474999353408:True:=⟨⟩
theorem tw2697347771269182058:True:=⟨⟩
theorem tw13536076783097482858:True:=⟨⟩
theorem tw3264581142493689951:True:=⟨⟩
theorem tw14146301142517594356:True:=⟨⟩
theorem tw12221982039647465232:True:=⟨⟩
theorem tw15174859790031509801:True:=⟨⟩
theorem tw9022076022719959584:True:=⟨⟩
theorem tw925031321715413513:True:=⟨⟩
theorem tw1220838349044446691:True:=⟨⟩
theorem tw4530994747041326639:True:=⟨⟩
theorem tw14671661956866447733:True:=⟨⟩
theorem tw12635588955759496997:True:=⟨⟩
theorem tw5596014489341926746:True:=⟨⟩
theorem tw7208240509209418578:True:=⟨⟩
theorem tw14444326692282979681:True:=⟨⟩
theorem tw14446847391066253762:True:=⟨⟩
theorem tw15054851881666351047:True:=⟨⟩
theorem tw16155006655965795993:True:=⟨⟩
theorem tw245516377530447115:True:=⟨⟩
theorem tw2304138374814652540:True:=⟨⟩
theorem tw11883739141875908509:True:=⟨⟩
theorem tw11660785440787077306:True:=⟨⟩
theorem tw9412919941992487337:True:=⟨⟩
theorem tw6040507872367387984:True:=⟨⟩
theorem tw11014371466074393325:True:=⟨⟩
theorem tw4957944246896843125:True:=⟨⟩
theorem tw3333921720041338052:True:=⟨⟩
theorem tw1632975157750022865:True:=⟨⟩
theorem tw6768077458627725058:True:=⟨⟩
theorem tw14175279773360419805:True:=⟨⟩
theorem tw635593893913733454:True:=⟨⟩
theorem tw17987023754413978531:True:=⟨⟩
theorem tw1180226050839284485:True:=⟨⟩
theorem tw7296498190447973751:True:=⟨⟩
theorem tw17112891740438288269:True:=⟨⟩
theorem tw14563039259911214161:True:=⟨⟩
theorem tw17568867728482003588:True:=⟨⟩
theorem tw3072020050476928665:True:=⟨⟩
theorem tw5328674648101353959:True:=⟨⟩
theorem tw17177135075555610597:True:=⟨⟩
theorem tw8048243199932348716:True:=⟨⟩
theorem tw17728282227100375583:True:=⟨⟩
theorem tw9510977556141981756:True:=⟨⟩
theorem tw9646734120313395890:True:=⟨⟩
theorem tw17932080657437915628:True:=⟨⟩
theorem tw6519302922686130849:True:=⟨⟩
theorem tw4276262104817612989:True:=⟨⟩
theorem tw17350970143641343967:True:=⟨⟩
theorem tw11841730553044462945:True:=⟨⟩
theorem tw2116277771065558145:True:=⟨⟩
theorem tw5636725706760989488:True:=⟨⟩
theorem tw7085692536553069320:True:=⟨⟩
theorem tw10986133607004362639:True:=⟨⟩
theorem tw10561832769134347093:True:=⟨⟩
theorem tw9949679171357851691:True:=⟨⟩
theorem tw7875461685866439916:True:=⟨⟩
theorem tw7108279713981239406:True:=⟨⟩
theorem tw3997312034694123959:True:=⟨⟩
theorem tw398990832647445966:True:=⟨⟩
theorem tw7691396624509602978:True:=⟨⟩
theorem tw10517437502357372324:True:=⟨⟩
theorem tw7036709933530115285:True:=⟨⟩
theorem tw8984759374764534557:True:=⟨⟩
theorem tw10138009557510111992:True:=⟨⟩
theorem tw2432956855527770927:True:=⟨⟩
theorem tw5424287682257916372:True:=⟨⟩
theorem tw9483073152180089429:True:=⟨⟩
theorem tw13910520579464306086:True:=⟨⟩
theorem tw2853013744300066921:True:=⟨⟩
theorem tw10694445566321421644:True:=⟨⟩
theorem tw5150263924199064817:True:=⟨⟩
theorem tw17553689863552291326:True:=⟨⟩
theorem tw15006835223785883910:True:=⟨⟩
theorem tw12430153876593160285:True:=⟨⟩
theorem tw5687859485648897427:True:=⟨⟩
theorem tw2025775356248764573:True:=⟨⟩
theorem tw664719115154260126:True:=⟨⟩
theorem tw13831238418414082649:True:=⟨⟩
theorem tw5602418294850627662:True:=⟨⟩
theorem tw5998708564831607898:True:=⟨⟩
theorem tw10599505467878662238:True:=⟨⟩
theorem tw10598149449993524125:True:=⟨⟩
theorem tw8087485324176767001:True:=⟨⟩
theorem tw17512279552877646529:True:=⟨⟩
theorem tw17350100351483830505:True:=⟨⟩
theorem tw12178819382366083031:True:=⟨⟩
theorem tw7918636217585425180:True:=⟨⟩
theorem tw17925620293978272437:True:=⟨⟩
theorem tw15876988980025359388:True:=⟨⟩
theorem tw558471867837405187:True:=⟨⟩
theorem tw16024769431262477413:True:=⟨⟩
theorem tw7384631429328008645:True:=⟨⟩
theorem tw15409206856791315346:True:=⟨⟩
theorem tw3098523313331544055:True:=⟨⟩
end Mine.hdx
set_option Elab.async true
set_option maxHeartbeats 0 in
theorem Mine.hdx : PySem.Challenge.rw_nt0616_01.Holds := by
 w_on; o_law; o_head (kHook Mine.gK [3, 27, 28, 34, 35, 48, 49, 62, 63, 69, 70, 76, 77, 83, 84, 90, 91, 97, 98, 125, 126, 132, 133, 139, 140, 149, 150, 160, 161, 162, 168, 169, 170, 176, 177, 185, 191, 192, 193, 199, 200, 201, 202, 208, 209, 215, 216, 222, 223, 229, 230, 236, 237, 243, 244, 250, 251, 257, 258, 259, 265, 266, 272, 273, 279, 280, 286, 287, 293, 294, 300, 301, 307, 308, 314, 315, 321, 322, 367, 368, 433, 434, 458, 459, 460, 461, 467, 468, 469, 470, 476, 477, 499, 505, 506, 512, 513, 519, 520, 547, 548, 554, 555, 557, 558, 568, 569, 577, 583, 584, 590, 591, 597, 598, 635, 636, 646, 647, 653, 654, 660, 661, 667, 668, 672, 673, 677, 678, 682, 683, 687, 688, 692, 693, 697, 698, 704, 705, 711, 712, 716, 717, 723, 724, 728, 729, 735, 736, 742, 743, 749, 750, 754, 755] (fun _ => by kernel_rfl)); (case hw => w_witness2)
 exact Mine.law_walk fun w h Y => kIn_of Y
theorem PySem.Challenge.cw_nt0616_01_holds : PySem.Challenge.rw_nt0616_01.Holds :=
 Mine.hdx
