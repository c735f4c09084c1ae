import PyProof.Rows.All
import Wide.All
import OpenK.AllK
import Wide.FinOn
import KE.KItem
import KE.KxMul
import KE.KAnyBase
import KE.KRevSl
import PyProof.LetGo
import KE.KDictSum
import KE.KAssignIn
import KE.KSetDisp
import Lean
import PySem.Challenge.RW_sa0534_01
set_option Elab.async false
section
open PySem PySem.W PyProof.Rows
set_option maxRecDepth 100000
set_option maxHeartbeats 0
namespace Mine
noncomputable abbrev pg : Program := PySem.Challenge.pw_sa0534_01
noncomputable def stAt (i : Nat) : Stmt := (pg.main.body[i]?).getD (.Pass ⟨0, 0, 0, 0⟩)
noncomputable def mtAt (i j : Nat) : Stmt := match stAt i with
  | .ClassDef _ _ _ b .. => (b[j]?).getD (.Pass ⟨0, 0, 0, 0⟩)
  | s => s
noncomputable abbrev S (s : String) (t : Tok) : Value := .str (Str.ofString s) t
noncomputable def en (P : Params) (k : String) (t : Tok) (v : Value) : DictEntry := ⟨PyData.keyHash P (Str.ofString k), .str (Str.ofString k) t, v⟩
noncomputable def fnO (st : Stmt) (qual : String) (dV pm cd : Value) : Obj := match st with
  | .FunctionDef name args body _ _ _ scope _ _ _ => ⟨.type "function", none, .func (fnOf name (Str.ofString qual) args body scope dV .none .none pm none cd .none), #[]⟩
  | _ => default
noncomputable def K (P : Params) : Frag := [
    (2, ⟨.none, none, .dict #[en P "type.__subclasses__.Exception.0" 514 (.int 246 0), en P "type.__subclasses__.Exception.n" 515 (.int 1 0)] 2, #[]⟩),
    (3, ⟨(.type "dict"), none, .dict #[en P "__name__" 165 (S "law_sa0534_01" 973), en P "__doc__" 166 .none, en P "__package__" 167 .none, en P "__loader__" 168 (.builtin "__main__.__loader__#opaque"), en P "__spec__" 169 .none, en P "__annotations__" 170 (.ref 6), en P "__builtins__" 171 (.ref 4), en P "__file__" 173 (S "/claim/cut.py" 172), en P "__cached__" 174 .none, en P "_wall" 193 (.ref 21), en P "Thing" 229 (.ref 38), en P "Scalar" 256 (.ref 59), en P "Array" 282 (.ref 78), en P "Hash" 309 (.ref 97), en P "Code" 339 (.ref 116), en P "Glob" 369 (.ref 135), en P "Ref" 400 (.ref 155), en P "Heap" 477 (.ref 218), en P "value_of" 486 (.ref 229), en P "PerlError" 517 (.ref 246), en P "Die" 542 (.ref 266), en P "NO_ELEMENT" 546 (S "Modification of non-creatable array value attempted" 545), en P "TOO_MANY" 548 (S "Out of memory!" 547), en P "fresh_scalars" 554 (.ref 273), en P "drop_member" 563 (.ref 280), en P "drop_members" 569 (.ref 285), en P "check_room" 577 (.ref 292), en P "push_values" 586 (.ref 299), en P "unshift_values" 595 (.ref 306), en P "pop_value" 603 (.ref 313), en P "shift_value" 611 (.ref 320), en P "splice_place" 619 (.ref 327), en P "splice_count" 629 (.ref 334), en P "splice_values" 644 (.ref 341), en P "element_place" 652 (.ref 348), en P "has_element" 661 (.ref 355), en P "element_value" 669 (.ref 362), en P "element_scalar" 680 (.ref 369), en P "resize_array" 691 (.ref 376), en P "clear_array" 700 (.ref 383), en P "fill_array" 710 (.ref 390), en P "array_values" 716 (.ref 395), en P "slice_values" 722 (.ref 400), en P "reversed_list" 729 (.ref 407), en P "last_member" 736 (.ref 414), en P "Tie" 767 (.ref 431), en P "kept_behind" 775 (.ref 442), en P "held_by" 781 (.ref 447), en P "empty_out" 788 (.ref 454), en P "in_order" 794 (.ref 459), en P "Counter" 922 (.ref 551), en P "Limits" 972 (.ref 573), en P "_law_most" 976 (.int 7 975), en P "_law_ways" 987 (.ref 578), en P "_law_roll" 995 (.ref 585), en P "_law_value" 1003 (.ref 592), en P "_law_values" 1009 (.ref 597), en P "_law_told" 1015 (.ref 602), en P "_law_form" 1027 (.ref 609), en P "_law_splice" 1040 (.ref 616), en P "_law_deed" 1051 (.ref 623), en P "_law_resized" 1060 (.ref 630), en P "_law_grown" 1079 (.ref 637), en P "_law_shrunk" 1092 (.ref 644), en P "_law_stored" 1104 (.ref 651), en P "_law_spliced" 1120 (.ref 658), en P "law" 1126 (.ref 663)] 67, #[]⟩),
    (20, ⟨(.type "code"), none, .fields #[(S "_wall" 187), (S "_wall" 188), (S "/claim/cut.py" 189), (.int 1 0), (.int 1 0), (.int 0 0), (.int 0 0), (.int 3 0), (.ref 15), (.bool true), (.int 181 0), (.ref 16), .none, (.ref 17), (.ref 18), (.ref 19), (.int 191 0), (.int 1 0), (S "/claim/cut.py" 192)], #[]⟩),
    (21, fnO (stAt 0) "_wall" .none (S "__main__" 164) (.ref 20)),
    (34, ⟨(.type "code"), none, .fields #[(S "__init__" 208), (S "Thing.__init__" 209), (S "/claim/cut.py" 210), (.int 7 0), (.int 2 0), (.int 0 0), (.int 0 0), (.int 3 0), (.ref 29), (.bool true), (.int 181 0), (.ref 30), .none, (.ref 31), (.ref 32), (.ref 33), (.int 213 0), (.int 7 0), (S "/claim/cut.py" 214)], #[]⟩),
    (35, fnO (mtAt 2 0) "Thing.__init__" .none (S "perlcore.values" 194) (.ref 34)),
    (37, ⟨(.type "dict"), none, .dict #[en P "__module__" 203 (S "perlcore.values" 194), en P "__firstlineno__" 207 (.int 5 206), en P "__init__" 215 (.ref 35), en P "__static_attributes__" 222 (.ref 36), en P "__dict__" 224 (.ref 39), en P "__weakref__" 226 (.ref 40), en P "__doc__" 227 .none] 4, #[]⟩),
    (38, ⟨.type "type", none, .cls { name := "Thing", bases := [(.type "object")], mro := [(.ref 38), (.type "object")], ns := 37, qualname := "Thing", subclasses := [(.ref 59), (.ref 78), (.ref 97), (.ref 116), (.ref 135)] }, #[none, none, some (S "Thing" 196), some (S "Thing" 204), some (.builtin "object.__new__"), some (.bool true)]⟩),
    (39, ⟨(.type "getset_descriptor"), none, .fields #[(S "__dict__" 223), (.ref 38), (.builtin "function.__dict__"), (.builtin "function.__dict__#set")], #[]⟩),
    (40, ⟨(.type "getset_descriptor"), none, .fields #[(S "__weakref__" 225), (.ref 38), (.builtin "ExceptionGroup.__weakref__"), .none], #[]⟩),
    (55, ⟨(.type "code"), none, .fields #[(S "__init__" 242), (S "Scalar.__init__" 243), (S "/claim/cut.py" 244), (.int 16 0), (.int 3 0), (.int 0 0), (.int 0 0), (.int 3 0), (.ref 50), (.bool true), (.int 181 0), (.ref 51), .none, (.ref 52), (.ref 53), (.ref 54), (.int 248 0), (.int 16 0), (S "/claim/cut.py" 249)], #[]⟩),
    (56, fnO (mtAt 3 0) "Scalar.__init__" .none (S "perlcore.values" 194) (.ref 55)),
    (58, ⟨(.type "dict"), none, .dict #[en P "__module__" 237 (S "perlcore.values" 194), en P "__firstlineno__" 241 (.int 14 240), en P "__init__" 250 (.ref 56), en P "__static_attributes__" 253 (.ref 57), en P "__doc__" 254 .none] 2, #[]⟩),
    (59, ⟨.type "type", none, .cls { name := "Scalar", bases := [(.ref 38)], mro := [(.ref 59), (.ref 38), (.type "object")], ns := 58, qualname := "Scalar", subclasses := [] }, #[some (.ref 43), none, some (S "Scalar" 230), some (S "Scalar" 238), some (.builtin "object.__new__"), some (.bool true)]⟩),
    (74, ⟨(.type "code"), none, .fields #[(S "__init__" 269), (S "Array.__init__" 270), (S "/claim/cut.py" 271), (.int 22 0), (.int 2 0), (.int 0 0), (.int 0 0), (.int 3 0), (.ref 69), (.bool true), (.int 181 0), (.ref 70), .none, (.ref 71), (.ref 72), (.ref 73), (.int 274 0), (.int 22 0), (S "/claim/cut.py" 275)], #[]⟩),
    (75, fnO (mtAt 4 0) "Array.__init__" .none (S "perlcore.values" 194) (.ref 74)),
    (77, ⟨(.type "dict"), none, .dict #[en P "__module__" 264 (S "perlcore.values" 194), en P "__firstlineno__" 268 (.int 20 267), en P "__init__" 276 (.ref 75), en P "__static_attributes__" 279 (.ref 76), en P "__doc__" 280 .none] 2, #[]⟩),
    (78, ⟨.type "type", none, .cls { name := "Array", bases := [(.ref 38)], mro := [(.ref 78), (.ref 38), (.type "object")], ns := 77, qualname := "Array", subclasses := [] }, #[some (.ref 62), none, some (S "Array" 257), some (S "Array" 265), some (.builtin "object.__new__"), some (.bool true)]⟩),
    (93, ⟨(.type "code"), none, .fields #[(S "__init__" 295), (S "Hash.__init__" 296), (S "/claim/cut.py" 297), (.int 28 0), (.int 2 0), (.int 0 0), (.int 0 0), (.int 3 0), (.ref 88), (.bool true), (.int 181 0), (.ref 89), .none, (.ref 90), (.ref 91), (.ref 92), (.int 300 0), (.int 28 0), (S "/claim/cut.py" 301)], #[]⟩),
    (94, fnO (mtAt 5 0) "Hash.__init__" .none (S "perlcore.values" 194) (.ref 93)),
    (96, ⟨(.type "dict"), none, .dict #[en P "__module__" 290 (S "perlcore.values" 194), en P "__firstlineno__" 294 (.int 26 293), en P "__init__" 302 (.ref 94), en P "__static_attributes__" 306 (.ref 95), en P "__doc__" 307 .none] 2, #[]⟩),
    (97, ⟨.type "type", none, .cls { name := "Hash", bases := [(.ref 38)], mro := [(.ref 97), (.ref 38), (.type "object")], ns := 96, qualname := "Hash", subclasses := [] }, #[some (.ref 81), none, some (S "Hash" 283), some (S "Hash" 291), some (.builtin "object.__new__"), some (.bool true)]⟩),
    (112, ⟨(.type "code"), none, .fields #[(S "__init__" 322), (S "Code.__init__" 323), (S "/claim/cut.py" 324), (.int 35 0), (.int 4 0), (.int 0 0), (.int 0 0), (.int 3 0), (.ref 107), (.bool true), (.int 181 0), (.ref 108), .none, (.ref 109), (.ref 110), (.ref 111), (.int 329 0), (.int 35 0), (S "/claim/cut.py" 330)], #[]⟩),
    (113, fnO (mtAt 6 0) "Code.__init__" .none (S "perlcore.values" 194) (.ref 112)),
    (115, ⟨(.type "dict"), none, .dict #[en P "__module__" 317 (S "perlcore.values" 194), en P "__firstlineno__" 321 (.int 33 320), en P "__init__" 331 (.ref 113), en P "__static_attributes__" 336 (.ref 114), en P "__doc__" 337 .none] 2, #[]⟩),
    (116, ⟨.type "type", none, .cls { name := "Code", bases := [(.ref 38)], mro := [(.ref 116), (.ref 38), (.type "object")], ns := 115, qualname := "Code", subclasses := [] }, #[some (.ref 100), none, some (S "Code" 310), some (S "Code" 318), some (.builtin "object.__new__"), some (.bool true)]⟩),
    (131, ⟨(.type "code"), none, .fields #[(S "__init__" 352), (S "Glob.__init__" 353), (S "/claim/cut.py" 354), (.int 43 0), (.int 3 0), (.int 0 0), (.int 0 0), (.int 3 0), (.ref 126), (.bool true), (.int 181 0), (.ref 127), .none, (.ref 128), (.ref 129), (.ref 130), (.int 358 0), (.int 43 0), (S "/claim/cut.py" 359)], #[]⟩),
    (132, fnO (mtAt 7 0) "Glob.__init__" .none (S "perlcore.values" 194) (.ref 131)),
    (134, ⟨(.type "dict"), none, .dict #[en P "__module__" 347 (S "perlcore.values" 194), en P "__firstlineno__" 351 (.int 41 350), en P "__init__" 360 (.ref 132), en P "__static_attributes__" 366 (.ref 133), en P "__doc__" 367 .none] 2, #[]⟩),
    (135, ⟨.type "type", none, .cls { name := "Glob", bases := [(.ref 38)], mro := [(.ref 135), (.ref 38), (.type "object")], ns := 134, qualname := "Glob", subclasses := [] }, #[some (.ref 119), none, some (S "Glob" 340), some (S "Glob" 348), some (.builtin "object.__new__"), some (.bool true)]⟩),
    (145, ⟨(.type "tuple"), none, .seq #[(.bool false)] 0, #[]⟩),
    (151, ⟨(.type "code"), none, .fields #[(S "__init__" 382), (S "Ref.__init__" 383), (S "/claim/cut.py" 384), (.int 52 0), (.int 3 0), (.int 0 0), (.int 0 0), (.int 3 0), (.ref 146), (.bool true), (.int 181 0), (.ref 147), .none, (.ref 148), (.ref 149), (.ref 150), (.int 388 0), (.int 52 0), (S "/claim/cut.py" 389)], #[]⟩),
    (152, fnO (mtAt 8 0) "Ref.__init__" (.ref 145) (S "perlcore.values" 194) (.ref 151)),
    (154, ⟨(.type "dict"), none, .dict #[en P "__module__" 377 (S "perlcore.values" 194), en P "__firstlineno__" 381 (.int 50 380), en P "__init__" 390 (.ref 152), en P "__static_attributes__" 393 (.ref 153), en P "__dict__" 395 (.ref 156), en P "__weakref__" 397 (.ref 157), en P "__doc__" 398 .none] 4, #[]⟩),
    (155, ⟨.type "type", none, .cls { name := "Ref", bases := [(.type "object")], mro := [(.ref 155), (.type "object")], ns := 154, qualname := "Ref", subclasses := [] }, #[none, none, some (S "Ref" 370), some (S "Ref" 378), some (.builtin "object.__new__"), some (.bool true)]⟩),
    (156, ⟨(.type "getset_descriptor"), none, .fields #[(S "__dict__" 394), (.ref 155), (.builtin "function.__dict__"), (.builtin "function.__dict__#set")], #[]⟩),
    (157, ⟨(.type "getset_descriptor"), none, .fields #[(S "__weakref__" 396), (.ref 155), (.builtin "ExceptionGroup.__weakref__"), .none], #[]⟩),
    (172, ⟨(.type "code"), none, .fields #[(S "__init__" 413), (S "Heap.__init__" 414), (S "/claim/cut.py" 415), (.int 57 0), (.int 2 0), (.int 0 0), (.int 0 0), (.int 3 0), (.ref 167), (.bool true), (.int 181 0), (.ref 168), .none, (.ref 169), (.ref 170), (.ref 171), (.int 418 0), (.int 57 0), (S "/claim/cut.py" 419)], #[]⟩),
    (173, fnO (mtAt 9 0) "Heap.__init__" .none (S "perlcore.values" 194) (.ref 172)),
    (179, ⟨(.type "code"), none, .fields #[(S "next_number" 421), (S "Heap.next_number" 422), (S "/claim/cut.py" 423), (.int 62 0), (.int 1 0), (.int 0 0), (.int 0 0), (.int 3 0), (.ref 174), (.bool true), (.int 181 0), (.ref 175), .none, (.ref 176), (.ref 177), (.ref 178), (.int 425 0), (.int 62 0), (S "/claim/cut.py" 426)], #[]⟩),
    (180, fnO (mtAt 9 1) "Heap.next_number" .none (S "perlcore.values" 194) (.ref 179)),
    (186, ⟨(.type "code"), none, .fields #[(S "new_scalar" 428), (S "Heap.new_scalar" 429), (S "/claim/cut.py" 430), (.int 66 0), (.int 2 0), (.int 0 0), (.int 0 0), (.int 3 0), (.ref 181), (.bool true), (.int 181 0), (.ref 182), .none, (.ref 183), (.ref 184), (.ref 185), (.int 433 0), (.int 66 0), (S "/claim/cut.py" 434)], #[]⟩),
    (187, fnO (mtAt 9 2) "Heap.new_scalar" .none (S "perlcore.values" 194) (.ref 186)),
    (193, ⟨(.type "code"), none, .fields #[(S "new_array" 436), (S "Heap.new_array" 437), (S "/claim/cut.py" 438), (.int 69 0), (.int 1 0), (.int 0 0), (.int 0 0), (.int 3 0), (.ref 188), (.bool true), (.int 181 0), (.ref 189), .none, (.ref 190), (.ref 191), (.ref 192), (.int 440 0), (.int 69 0), (S "/claim/cut.py" 441)], #[]⟩),
    (194, fnO (mtAt 9 3) "Heap.new_array" .none (S "perlcore.values" 194) (.ref 193)),
    (200, ⟨(.type "code"), none, .fields #[(S "new_hash" 443), (S "Heap.new_hash" 444), (S "/claim/cut.py" 445), (.int 72 0), (.int 1 0), (.int 0 0), (.int 0 0), (.int 3 0), (.ref 195), (.bool true), (.int 181 0), (.ref 196), .none, (.ref 197), (.ref 198), (.ref 199), (.int 447 0), (.int 72 0), (S "/claim/cut.py" 448)], #[]⟩),
    (201, fnO (mtAt 9 4) "Heap.new_hash" .none (S "perlcore.values" 194) (.ref 200)),
    (207, ⟨(.type "code"), none, .fields #[(S "new_code" 450), (S "Heap.new_code" 451), (S "/claim/cut.py" 452), (.int 75 0), (.int 3 0), (.int 0 0), (.int 0 0), (.int 3 0), (.ref 202), (.bool true), (.int 181 0), (.ref 203), .none, (.ref 204), (.ref 205), (.ref 206), (.int 456 0), (.int 75 0), (S "/claim/cut.py" 457)], #[]⟩),
    (208, fnO (mtAt 9 5) "Heap.new_code" .none (S "perlcore.values" 194) (.ref 207)),
    (214, ⟨(.type "code"), none, .fields #[(S "new_glob" 459), (S "Heap.new_glob" 460), (S "/claim/cut.py" 461), (.int 78 0), (.int 2 0), (.int 0 0), (.int 0 0), (.int 3 0), (.ref 209), (.bool true), (.int 181 0), (.ref 210), .none, (.ref 211), (.ref 212), (.ref 213), (.int 464 0), (.int 78 0), (S "/claim/cut.py" 465)], #[]⟩),
    (215, fnO (mtAt 9 6) "Heap.new_glob" .none (S "perlcore.values" 194) (.ref 214)),
    (217, ⟨(.type "dict"), none, .dict #[en P "__module__" 408 (S "perlcore.values" 194), en P "__firstlineno__" 412 (.int 55 411), en P "__init__" 420 (.ref 173), en P "next_number" 427 (.ref 180), en P "new_scalar" 435 (.ref 187), en P "new_array" 442 (.ref 194), en P "new_hash" 449 (.ref 201), en P "new_code" 458 (.ref 208), en P "new_glob" 466 (.ref 215), en P "__static_attributes__" 470 (.ref 216), en P "__dict__" 472 (.ref 219), en P "__weakref__" 474 (.ref 220), en P "__doc__" 475 .none] 4, #[]⟩),
    (218, ⟨.type "type", none, .cls { name := "Heap", bases := [(.type "object")], mro := [(.ref 218), (.type "object")], ns := 217, qualname := "Heap", subclasses := [] }, #[none, none, some (S "Heap" 401), some (S "Heap" 409), some (.builtin "object.__new__"), some (.bool true)]⟩),
    (219, ⟨(.type "getset_descriptor"), none, .fields #[(S "__dict__" 471), (.ref 218), (.builtin "function.__dict__"), (.builtin "function.__dict__#set")], #[]⟩),
    (220, ⟨(.type "getset_descriptor"), none, .fields #[(S "__weakref__" 473), (.ref 218), (.builtin "ExceptionGroup.__weakref__"), .none], #[]⟩),
    (228, ⟨(.type "code"), none, .fields #[(S "value_of" 480), (S "value_of" 481), (S "/claim/cut.py" 482), (.int 81 0), (.int 1 0), (.int 0 0), (.int 0 0), (.int 3 0), (.ref 223), (.bool true), (.int 181 0), (.ref 224), .none, (.ref 225), (.ref 226), (.ref 227), (.int 484 0), (.int 81 0), (S "/claim/cut.py" 485)], #[]⟩),
    (229, fnO (stAt 11) "value_of" .none (S "perlcore.convert" 478) (.ref 228)),
    (242, ⟨(.type "code"), none, .fields #[(S "__init__" 501), (S "PerlError.__init__" 502), (S "/claim/cut.py" 503), (.int 90 0), (.int 2 0), (.int 0 0), (.int 0 0), (.int 3 0), (.ref 237), (.bool true), (.int 181 0), (.ref 238), .none, (.ref 239), (.ref 240), (.ref 241), (.int 506 0), (.int 90 0), (S "/claim/cut.py" 507)], #[]⟩),
    (243, fnO (mtAt 13 0) "PerlError.__init__" .none (S "perlcore.errors" 487) (.ref 242)),
    (245, ⟨(.type "dict"), none, .dict #[en P "__module__" 496 (S "perlcore.errors" 487), en P "__firstlineno__" 500 (.int 88 499), en P "__init__" 508 (.ref 243), en P "__static_attributes__" 510 (.ref 244), en P "__weakref__" 512 (.ref 247), en P "__doc__" 513 .none] 3, #[]⟩),
    (246, ⟨.type "type", none, .cls { name := "PerlError", bases := [(.type "Exception")], mro := [(.ref 246), (.type "Exception"), (.type "BaseException"), (.type "object")], ns := 245, qualname := "PerlError", subclasses := [(.ref 266)] }, #[some (.ref 230), none, some (S "PerlError" 489), some (S "PerlError" 497), some (.builtin "Exception.__new__"), some (.bool true)]⟩),
    (247, ⟨(.type "getset_descriptor"), none, .fields #[(S "__weakref__" 511), (.ref 246), (.builtin "ExceptionGroup.__weakref__"), .none], #[]⟩),
    (262, ⟨(.type "code"), none, .fields #[(S "__init__" 530), (S "Die.__init__" 531), (S "/claim/cut.py" 532), (.int 95 0), (.int 2 0), (.int 0 0), (.int 0 0), (.int 3 0), (.ref 257), (.bool true), (.int 181 0), (.ref 258), .none, (.ref 259), (.ref 260), (.ref 261), (.int 535 0), (.int 95 0), (S "/claim/cut.py" 536)], #[]⟩),
    (263, fnO (mtAt 14 0) "Die.__init__" .none (S "perlcore.errors" 487) (.ref 262)),
    (265, ⟨(.type "dict"), none, .dict #[en P "__module__" 525 (S "perlcore.errors" 487), en P "__firstlineno__" 529 (.int 93 528), en P "__init__" 537 (.ref 263), en P "__static_attributes__" 539 (.ref 264), en P "__doc__" 540 .none] 2, #[]⟩),
    (266, ⟨.type "type", none, .cls { name := "Die", bases := [(.ref 246)], mro := [(.ref 266), (.ref 246), (.type "Exception"), (.type "BaseException"), (.type "object")], ns := 265, qualname := "Die", subclasses := [] }, #[some (.ref 250), none, some (S "Die" 518), some (S "Die" 526), some (.builtin "Exception.__new__"), some (.bool true)]⟩),
    (272, ⟨(.type "code"), none, .fields #[(S "fresh_scalars" 549), (S "fresh_scalars" 550), (S "/claim/cut.py" 551), (.int 101 0), (.int 2 0), (.int 0 0), (.int 0 0), (.int 3 0), (.ref 269), (.bool true), (.int 181 0), (.ref 270), .none, .none, .none, (.ref 271), (.int 552 0), (.int 101 0), (S "/claim/cut.py" 553)], #[]⟩),
    (273, fnO (stAt 18) "fresh_scalars" .none (S "perlcore.listops" 543) (.ref 272)),
    (279, ⟨(.type "code"), none, .fields #[(S "drop_member" 555), (S "drop_member" 556), (S "/claim/cut.py" 557), (.int 103 0), (.int 2 0), (.int 0 0), (.int 0 0), (.int 3 0), (.ref 274), (.bool true), (.int 181 0), (.ref 275), .none, (.ref 276), (.ref 277), (.ref 278), (.int 561 0), (.int 103 0), (S "/claim/cut.py" 562)], #[]⟩),
    (280, fnO (stAt 19) "drop_member" .none (S "perlcore.listops" 543) (.ref 279)),
    (284, ⟨(.type "code"), none, .fields #[(S "drop_members" 564), (S "drop_members" 565), (S "/claim/cut.py" 566), (.int 109 0), (.int 2 0), (.int 0 0), (.int 0 0), (.int 3 0), (.ref 281), (.bool true), (.int 181 0), (.ref 282), .none, .none, .none, (.ref 283), (.int 567 0), (.int 109 0), (S "/claim/cut.py" 568)], #[]⟩),
    (285, fnO (stAt 20) "drop_members" .none (S "perlcore.listops" 543) (.ref 284)),
    (291, ⟨(.type "code"), none, .fields #[(S "check_room" 570), (S "check_room" 571), (S "/claim/cut.py" 572), (.int 111 0), (.int 2 0), (.int 0 0), (.int 0 0), (.int 3 0), (.ref 286), (.bool true), (.int 181 0), (.ref 287), .none, (.ref 288), (.ref 289), (.ref 290), (.int 575 0), (.int 111 0), (S "/claim/cut.py" 576)], #[]⟩),
    (292, fnO (stAt 21) "check_room" .none (S "perlcore.listops" 543) (.ref 291)),
    (298, ⟨(.type "code"), none, .fields #[(S "push_values" 578), (S "push_values" 579), (S "/claim/cut.py" 580), (.int 114 0), (.int 3 0), (.int 0 0), (.int 0 0), (.int 3 0), (.ref 293), (.bool true), (.int 181 0), (.ref 294), .none, (.ref 295), (.ref 296), (.ref 297), (.int 584 0), (.int 114 0), (S "/claim/cut.py" 585)], #[]⟩),
    (299, fnO (stAt 22) "push_values" .none (S "perlcore.listops" 543) (.ref 298)),
    (305, ⟨(.type "code"), none, .fields #[(S "unshift_values" 587), (S "unshift_values" 588), (S "/claim/cut.py" 589), (.int 118 0), (.int 3 0), (.int 0 0), (.int 0 0), (.int 3 0), (.ref 300), (.bool true), (.int 181 0), (.ref 301), .none, (.ref 302), (.ref 303), (.ref 304), (.int 593 0), (.int 118 0), (S "/claim/cut.py" 594)], #[]⟩),
    (306, fnO (stAt 23) "unshift_values" .none (S "perlcore.listops" 543) (.ref 305)),
    (312, ⟨(.type "code"), none, .fields #[(S "pop_value" 596), (S "pop_value" 597), (S "/claim/cut.py" 598), (.int 122 0), (.int 2 0), (.int 0 0), (.int 0 0), (.int 3 0), (.ref 307), (.bool true), (.int 181 0), (.ref 308), .none, (.ref 309), (.ref 310), (.ref 311), (.int 601 0), (.int 122 0), (S "/claim/cut.py" 602)], #[]⟩),
    (313, fnO (stAt 24) "pop_value" .none (S "perlcore.listops" 543) (.ref 312)),
    (319, ⟨(.type "code"), none, .fields #[(S "shift_value" 604), (S "shift_value" 605), (S "/claim/cut.py" 606), (.int 126 0), (.int 2 0), (.int 0 0), (.int 0 0), (.int 3 0), (.ref 314), (.bool true), (.int 181 0), (.ref 315), .none, (.ref 316), (.ref 317), (.ref 318), (.int 609 0), (.int 126 0), (S "/claim/cut.py" 610)], #[]⟩),
    (320, fnO (stAt 25) "shift_value" .none (S "perlcore.listops" 543) (.ref 319)),
    (326, ⟨(.type "code"), none, .fields #[(S "splice_place" 612), (S "splice_place" 613), (S "/claim/cut.py" 614), (.int 130 0), (.int 2 0), (.int 0 0), (.int 0 0), (.int 3 0), (.ref 321), (.bool true), (.int 181 0), (.ref 322), .none, (.ref 323), (.ref 324), (.ref 325), (.int 617 0), (.int 130 0), (S "/claim/cut.py" 618)], #[]⟩),
    (327, fnO (stAt 26) "splice_place" .none (S "perlcore.listops" 543) (.ref 326)),
    (333, ⟨(.type "code"), none, .fields #[(S "splice_count" 620), (S "splice_count" 621), (S "/claim/cut.py" 622), (.int 136 0), (.int 3 0), (.int 0 0), (.int 0 0), (.int 3 0), (.ref 328), (.bool true), (.int 181 0), (.ref 329), .none, (.ref 330), (.ref 331), (.ref 332), (.int 627 0), (.int 136 0), (S "/claim/cut.py" 628)], #[]⟩),
    (334, fnO (stAt 27) "splice_count" .none (S "perlcore.listops" 543) (.ref 333)),
    (340, ⟨(.type "code"), none, .fields #[(S "splice_values" 630), (S "splice_values" 631), (S "/claim/cut.py" 632), (.int 143 0), (.int 5 0), (.int 0 0), (.int 0 0), (.int 3 0), (.ref 335), (.bool true), (.int 181 0), (.ref 336), .none, (.ref 337), (.ref 338), (.ref 339), (.int 642 0), (.int 143 0), (S "/claim/cut.py" 643)], #[]⟩),
    (341, fnO (stAt 28) "splice_values" .none (S "perlcore.listops" 543) (.ref 340)),
    (347, ⟨(.type "code"), none, .fields #[(S "element_place" 645), (S "element_place" 646), (S "/claim/cut.py" 647), (.int 151 0), (.int 2 0), (.int 0 0), (.int 0 0), (.int 3 0), (.ref 342), (.bool true), (.int 181 0), (.ref 343), .none, (.ref 344), (.ref 345), (.ref 346), (.int 650 0), (.int 151 0), (S "/claim/cut.py" 651)], #[]⟩),
    (348, fnO (stAt 29) "element_place" .none (S "perlcore.listops" 543) (.ref 347)),
    (354, ⟨(.type "code"), none, .fields #[(S "has_element" 653), (S "has_element" 654), (S "/claim/cut.py" 655), (.int 157 0), (.int 2 0), (.int 0 0), (.int 0 0), (.int 3 0), (.ref 349), (.bool true), (.int 181 0), (.ref 350), .none, (.ref 351), (.ref 352), (.ref 353), (.int 659 0), (.int 157 0), (S "/claim/cut.py" 660)], #[]⟩),
    (355, fnO (stAt 30) "has_element" .none (S "perlcore.listops" 543) (.ref 354)),
    (361, ⟨(.type "code"), none, .fields #[(S "element_value" 662), (S "element_value" 663), (S "/claim/cut.py" 664), (.int 160 0), (.int 2 0), (.int 0 0), (.int 0 0), (.int 3 0), (.ref 356), (.bool true), (.int 181 0), (.ref 357), .none, (.ref 358), (.ref 359), (.ref 360), (.int 667 0), (.int 160 0), (S "/claim/cut.py" 668)], #[]⟩),
    (362, fnO (stAt 31) "element_value" .none (S "perlcore.listops" 543) (.ref 361)),
    (368, ⟨(.type "code"), none, .fields #[(S "element_scalar" 670), (S "element_scalar" 671), (S "/claim/cut.py" 672), (.int 164 0), (.int 4 0), (.int 0 0), (.int 0 0), (.int 3 0), (.ref 363), (.bool true), (.int 181 0), (.ref 364), .none, (.ref 365), (.ref 366), (.ref 367), (.int 678 0), (.int 164 0), (S "/claim/cut.py" 679)], #[]⟩),
    (369, fnO (stAt 32) "element_scalar" .none (S "perlcore.listops" 543) (.ref 368)),
    (375, ⟨(.type "code"), none, .fields #[(S "resize_array" 681), (S "resize_array" 682), (S "/claim/cut.py" 683), (.int 173 0), (.int 4 0), (.int 0 0), (.int 0 0), (.int 3 0), (.ref 370), (.bool true), (.int 181 0), (.ref 371), .none, (.ref 372), (.ref 373), (.ref 374), (.int 689 0), (.int 173 0), (S "/claim/cut.py" 690)], #[]⟩),
    (376, fnO (stAt 33) "resize_array" .none (S "perlcore.listops" 543) (.ref 375)),
    (382, ⟨(.type "code"), none, .fields #[(S "clear_array" 692), (S "clear_array" 693), (S "/claim/cut.py" 694), (.int 183 0), (.int 2 0), (.int 0 0), (.int 0 0), (.int 3 0), (.ref 377), (.bool true), (.int 181 0), (.ref 378), .none, (.ref 379), (.ref 380), (.ref 381), (.int 698 0), (.int 183 0), (S "/claim/cut.py" 699)], #[]⟩),
    (383, fnO (stAt 34) "clear_array" .none (S "perlcore.listops" 543) (.ref 382)),
    (389, ⟨(.type "code"), none, .fields #[(S "fill_array" 701), (S "fill_array" 702), (S "/claim/cut.py" 703), (.int 187 0), (.int 3 0), (.int 0 0), (.int 0 0), (.int 3 0), (.ref 384), (.bool true), (.int 181 0), (.ref 385), .none, (.ref 386), (.ref 387), (.ref 388), (.int 708 0), (.int 187 0), (S "/claim/cut.py" 709)], #[]⟩),
    (390, fnO (stAt 35) "fill_array" .none (S "perlcore.listops" 543) (.ref 389)),
    (394, ⟨(.type "code"), none, .fields #[(S "array_values" 711), (S "array_values" 712), (S "/claim/cut.py" 713), (.int 192 0), (.int 1 0), (.int 0 0), (.int 0 0), (.int 3 0), (.ref 391), (.bool true), (.int 181 0), (.ref 392), .none, .none, .none, (.ref 393), (.int 714 0), (.int 192 0), (S "/claim/cut.py" 715)], #[]⟩),
    (395, fnO (stAt 36) "array_values" .none (S "perlcore.listops" 543) (.ref 394)),
    (399, ⟨(.type "code"), none, .fields #[(S "slice_values" 717), (S "slice_values" 718), (S "/claim/cut.py" 719), (.int 194 0), (.int 2 0), (.int 0 0), (.int 0 0), (.int 3 0), (.ref 396), (.bool true), (.int 181 0), (.ref 397), .none, .none, .none, (.ref 398), (.int 720 0), (.int 194 0), (S "/claim/cut.py" 721)], #[]⟩),
    (400, fnO (stAt 37) "slice_values" .none (S "perlcore.listops" 543) (.ref 399)),
    (406, ⟨(.type "code"), none, .fields #[(S "reversed_list" 723), (S "reversed_list" 724), (S "/claim/cut.py" 725), (.int 196 0), (.int 1 0), (.int 0 0), (.int 0 0), (.int 3 0), (.ref 401), (.bool true), (.int 181 0), (.ref 402), .none, (.ref 403), (.ref 404), (.ref 405), (.int 727 0), (.int 196 0), (S "/claim/cut.py" 728)], #[]⟩),
    (407, fnO (stAt 38) "reversed_list" .none (S "perlcore.listops" 543) (.ref 406)),
    (413, ⟨(.type "code"), none, .fields #[(S "last_member" 730), (S "last_member" 731), (S "/claim/cut.py" 732), (.int 198 0), (.int 1 0), (.int 0 0), (.int 0 0), (.int 3 0), (.ref 408), (.bool true), (.int 181 0), (.ref 409), .none, (.ref 410), (.ref 411), (.ref 412), (.int 734 0), (.int 198 0), (S "/claim/cut.py" 735)], #[]⟩),
    (414, fnO (stAt 39) "last_member" .none (S "perlcore.listops" 543) (.ref 413)),
    (427, ⟨(.type "code"), none, .fields #[(S "__init__" 751), (S "Tie.__init__" 752), (S "/claim/cut.py" 753), (.int 205 0), (.int 2 0), (.int 0 0), (.int 0 0), (.int 3 0), (.ref 422), (.bool true), (.int 181 0), (.ref 423), .none, (.ref 424), (.ref 425), (.ref 426), (.int 756 0), (.int 205 0), (S "/claim/cut.py" 757)], #[]⟩),
    (428, fnO (mtAt 41 0) "Tie.__init__" .none (S "perlcore.counts" 737) (.ref 427)),
    (430, ⟨(.type "dict"), none, .dict #[en P "__module__" 746 (S "perlcore.counts" 737), en P "__firstlineno__" 750 (.int 203 749), en P "__init__" 758 (.ref 428), en P "__static_attributes__" 760 (.ref 429), en P "__dict__" 762 (.ref 432), en P "__weakref__" 764 (.ref 433), en P "__doc__" 765 .none] 4, #[]⟩),
    (431, ⟨.type "type", none, .cls { name := "Tie", bases := [(.type "object")], mro := [(.ref 431), (.type "object")], ns := 430, qualname := "Tie", subclasses := [] }, #[none, none, some (S "Tie" 739), some (S "Tie" 747), some (.builtin "object.__new__"), some (.bool true)]⟩),
    (432, ⟨(.type "getset_descriptor"), none, .fields #[(S "__dict__" 761), (.ref 431), (.builtin "function.__dict__"), (.builtin "function.__dict__#set")], #[]⟩),
    (433, ⟨(.type "getset_descriptor"), none, .fields #[(S "__weakref__" 763), (.ref 431), (.builtin "ExceptionGroup.__weakref__"), .none], #[]⟩),
    (441, ⟨(.type "code"), none, .fields #[(S "kept_behind" 768), (S "kept_behind" 769), (S "/claim/cut.py" 770), (.int 207 0), (.int 1 0), (.int 0 0), (.int 0 0), (.int 3 0), (.ref 436), (.bool true), (.int 181 0), (.ref 437), .none, (.ref 438), (.ref 439), (.ref 440), (.int 773 0), (.int 207 0), (S "/claim/cut.py" 774)], #[]⟩),
    (442, fnO (stAt 42) "kept_behind" .none (S "perlcore.counts" 737) (.ref 441)),
    (446, ⟨(.type "code"), none, .fields #[(S "held_by" 776), (S "held_by" 777), (S "/claim/cut.py" 778), (.int 214 0), (.int 1 0), (.int 0 0), (.int 0 0), (.int 3 0), (.ref 443), (.bool true), (.int 181 0), (.ref 444), .none, .none, .none, (.ref 445), (.int 779 0), (.int 214 0), (S "/claim/cut.py" 780)], #[]⟩),
    (447, fnO (stAt 43) "held_by" .none (S "perlcore.counts" 737) (.ref 446)),
    (453, ⟨(.type "code"), none, .fields #[(S "empty_out" 782), (S "empty_out" 783), (S "/claim/cut.py" 784), (.int 226 0), (.int 1 0), (.int 0 0), (.int 0 0), (.int 3 0), (.ref 448), (.bool true), (.int 181 0), (.ref 449), .none, (.ref 450), (.ref 451), (.ref 452), (.int 786 0), (.int 226 0), (S "/claim/cut.py" 787)], #[]⟩),
    (454, fnO (stAt 44) "empty_out" .none (S "perlcore.counts" 737) (.ref 453)),
    (458, ⟨(.type "code"), none, .fields #[(S "in_order" 789), (S "in_order" 790), (S "/claim/cut.py" 791), (.int 243 0), (.int 1 0), (.int 0 0), (.int 0 0), (.int 3 0), (.ref 455), (.bool true), (.int 181 0), (.ref 456), .none, .none, .none, (.ref 457), (.int 792 0), (.int 243 0), (S "/claim/cut.py" 793)], #[]⟩),
    (459, fnO (stAt 45) "in_order" .none (S "perlcore.counts" 737) (.ref 458)),
    (472, ⟨(.type "code"), none, .fields #[(S "__init__" 807), (S "Counter.__init__" 808), (S "/claim/cut.py" 809), (.int 251 0), (.int 3 0), (.int 0 0), (.int 0 0), (.int 3 0), (.ref 467), (.bool true), (.int 181 0), (.ref 468), .none, (.ref 469), (.ref 470), (.ref 471), (.int 813 0), (.int 251 0), (S "/claim/cut.py" 814)], #[]⟩),
    (473, fnO (mtAt 46 0) "Counter.__init__" .none (S "perlcore.counts" 737) (.ref 472)),
    (479, ⟨(.type "code"), none, .fields #[(S "hold" 816), (S "Counter.hold" 817), (S "/claim/cut.py" 818), (.int 257 0), (.int 2 0), (.int 0 0), (.int 0 0), (.int 3 0), (.ref 474), (.bool true), (.int 181 0), (.ref 475), .none, (.ref 476), (.ref 477), (.ref 478), (.int 821 0), (.int 257 0), (S "/claim/cut.py" 822)], #[]⟩),
    (480, fnO (mtAt 46 1) "Counter.hold" .none (S "perlcore.counts" 737) (.ref 479)),
    (486, ⟨(.type "code"), none, .fields #[(S "let_go" 824), (S "Counter.let_go" 825), (S "/claim/cut.py" 826), (.int 260 0), (.int 2 0), (.int 0 0), (.int 0 0), (.int 3 0), (.ref 481), (.bool true), (.int 181 0), (.ref 482), .none, (.ref 483), (.ref 484), (.ref 485), (.int 829 0), (.int 260 0), (S "/claim/cut.py" 830)], #[]⟩),
    (487, fnO (mtAt 46 2) "Counter.let_go" .none (S "perlcore.counts" 737) (.ref 486)),
    (493, ⟨(.type "code"), none, .fields #[(S "note" 832), (S "Counter.note" 833), (S "/claim/cut.py" 834), (.int 265 0), (.int 2 0), (.int 0 0), (.int 0 0), (.int 3 0), (.ref 488), (.bool true), (.int 181 0), (.ref 489), .none, (.ref 490), (.ref 491), (.ref 492), (.int 837 0), (.int 265 0), (S "/claim/cut.py" 838)], #[]⟩),
    (494, fnO (mtAt 46 3) "Counter.note" .none (S "perlcore.counts" 737) (.ref 493)),
    (500, ⟨(.type "code"), none, .fields #[(S "take" 840), (S "Counter.take" 841), (S "/claim/cut.py" 842), (.int 268 0), (.int 2 0), (.int 0 0), (.int 0 0), (.int 3 0), (.ref 495), (.bool true), (.int 181 0), (.ref 496), .none, (.ref 497), (.ref 498), (.ref 499), (.int 845 0), (.int 268 0), (S "/claim/cut.py" 846)], #[]⟩),
    (501, fnO (mtAt 46 4) "Counter.take" .none (S "perlcore.counts" 737) (.ref 500)),
    (505, ⟨(.type "code"), none, .fields #[(S "put_off" 848), (S "Counter.put_off" 849), (S "/claim/cut.py" 850), (.int 276 0), (.int 3 0), (.int 0 0), (.int 0 0), (.int 3 0), (.ref 502), (.bool true), (.int 181 0), (.ref 503), .none, .none, .none, (.ref 504), (.int 851 0), (.int 276 0), (S "/claim/cut.py" 852)], #[]⟩),
    (506, fnO (mtAt 46 5) "Counter.put_off" .none (S "perlcore.counts" 737) (.ref 505)),
    (512, ⟨(.type "code"), none, .fields #[(S "store" 854), (S "Counter.store" 855), (S "/claim/cut.py" 856), (.int 284 0), (.int 3 0), (.int 0 0), (.int 0 0), (.int 3 0), (.ref 507), (.bool true), (.int 181 0), (.ref 508), .none, (.ref 509), (.ref 510), (.ref 511), (.int 861 0), (.int 284 0), (S "/claim/cut.py" 862)], #[]⟩),
    (513, fnO (mtAt 46 6) "Counter.store" .none (S "perlcore.counts" 737) (.ref 512)),
    (519, ⟨(.type "code"), none, .fields #[(S "fresh" 864), (S "Counter.fresh" 865), (S "/claim/cut.py" 866), (.int 294 0), (.int 2 0), (.int 0 0), (.int 0 0), (.int 3 0), (.ref 514), (.bool true), (.int 181 0), (.ref 515), .none, (.ref 516), (.ref 517), (.ref 518), (.int 870 0), (.int 294 0), (S "/claim/cut.py" 871)], #[]⟩),
    (520, fnO (mtAt 46 7) "Counter.fresh" .none (S "perlcore.counts" 737) (.ref 519)),
    (526, ⟨(.type "code"), none, .fields #[(S "drop" 873), (S "Counter.drop" 874), (S "/claim/cut.py" 875), (.int 299 0), (.int 2 0), (.int 0 0), (.int 0 0), (.int 3 0), (.ref 521), (.bool true), (.int 181 0), (.ref 522), .none, (.ref 523), (.ref 524), (.ref 525), (.int 878 0), (.int 299 0), (S "/claim/cut.py" 879)], #[]⟩),
    (527, fnO (mtAt 46 8) "Counter.drop" .none (S "perlcore.counts" 737) (.ref 526)),
    (533, ⟨(.type "code"), none, .fields #[(S "settle" 881), (S "Counter.settle" 882), (S "/claim/cut.py" 883), (.int 302 0), (.int 2 0), (.int 0 0), (.int 0 0), (.int 3 0), (.ref 528), (.bool true), (.int 181 0), (.ref 529), .none, (.ref 530), (.ref 531), (.ref 532), (.int 888 0), (.int 302 0), (S "/claim/cut.py" 889)], #[]⟩),
    (534, fnO (mtAt 46 9) "Counter.settle" .none (S "perlcore.counts" 737) (.ref 533)),
    (540, ⟨(.type "code"), none, .fields #[(S "finish" 891), (S "Counter.finish" 892), (S "/claim/cut.py" 893), (.int 312 0), (.int 2 0), (.int 0 0), (.int 0 0), (.int 3 0), (.ref 535), (.bool true), (.int 181 0), (.ref 536), .none, (.ref 537), (.ref 538), (.ref 539), (.int 896 0), (.int 312 0), (S "/claim/cut.py" 897)], #[]⟩),
    (541, fnO (mtAt 46 10) "Counter.finish" .none (S "perlcore.counts" 737) (.ref 540)),
    (547, ⟨(.type "code"), none, .fields #[(S "free" 899), (S "Counter.free" 900), (S "/claim/cut.py" 901), (.int 320 0), (.int 2 0), (.int 0 0), (.int 0 0), (.int 3 0), (.ref 542), (.bool true), (.int 181 0), (.ref 543), .none, (.ref 544), (.ref 545), (.ref 546), (.int 908 0), (.int 320 0), (S "/claim/cut.py" 909)], #[]⟩),
    (548, fnO (mtAt 46 11) "Counter.free" .none (S "perlcore.counts" 737) (.ref 547)),
    (550, ⟨(.type "dict"), none, .dict #[en P "__module__" 802 (S "perlcore.counts" 737), en P "__firstlineno__" 806 (.int 249 805), en P "__init__" 815 (.ref 473), en P "hold" 823 (.ref 480), en P "let_go" 831 (.ref 487), en P "note" 839 (.ref 494), en P "take" 847 (.ref 501), en P "put_off" 853 (.ref 506), en P "store" 863 (.ref 513), en P "fresh" 872 (.ref 520), en P "drop" 880 (.ref 527), en P "settle" 890 (.ref 534), en P "finish" 898 (.ref 541), en P "free" 910 (.ref 548), en P "__static_attributes__" 915 (.ref 549), en P "__dict__" 917 (.ref 552), en P "__weakref__" 919 (.ref 553), en P "__doc__" 920 .none] 4, #[]⟩),
    (551, ⟨.type "type", none, .cls { name := "Counter", bases := [(.type "object")], mro := [(.ref 551), (.type "object")], ns := 550, qualname := "Counter", subclasses := [] }, #[none, none, some (S "Counter" 795), some (S "Counter" 803), some (.builtin "object.__new__"), some (.bool true)]⟩),
    (552, ⟨(.type "getset_descriptor"), none, .fields #[(S "__dict__" 916), (.ref 551), (.builtin "function.__dict__"), (.builtin "function.__dict__#set")], #[]⟩),
    (553, ⟨(.type "getset_descriptor"), none, .fields #[(S "__weakref__" 918), (.ref 551), (.builtin "ExceptionGroup.__weakref__"), .none], #[]⟩),
    (563, ⟨(.type "tuple"), none, .seq #[(.int 64 937), (.int 50 938), (.int 1000000 941), (.int 100000 944), (.int 10000 947)] 0, #[]⟩),
    (569, ⟨(.type "code"), none, .fields #[(S "__init__" 948), (S "Limits.__init__" 949), (S "/claim/cut.py" 950), (.int 338 0), (.int 6 0), (.int 0 0), (.int 0 0), (.int 3 0), (.ref 564), (.bool true), (.int 181 0), (.ref 565), .none, (.ref 566), (.ref 567), (.ref 568), (.int 957 0), (.int 338 0), (S "/claim/cut.py" 958)], #[]⟩),
    (570, fnO (mtAt 48 0) "Limits.__init__" (.ref 563) (S "perlcore.limits" 923) (.ref 569)),
    (572, ⟨(.type "dict"), none, .dict #[en P "__module__" 932 (S "perlcore.limits" 923), en P "__firstlineno__" 936 (.int 336 935), en P "__init__" 959 (.ref 570), en P "__static_attributes__" 965 (.ref 571), en P "__dict__" 967 (.ref 574), en P "__weakref__" 969 (.ref 575), en P "__doc__" 970 .none] 4, #[]⟩),
    (573, ⟨.type "type", none, .cls { name := "Limits", bases := [(.type "object")], mro := [(.ref 573), (.type "object")], ns := 572, qualname := "Limits", subclasses := [] }, #[none, none, some (S "Limits" 925), some (S "Limits" 933), some (.builtin "object.__new__"), some (.bool true)]⟩),
    (574, ⟨(.type "getset_descriptor"), none, .fields #[(S "__dict__" 966), (.ref 573), (.builtin "function.__dict__"), (.builtin "function.__dict__#set")], #[]⟩),
    (575, ⟨(.type "getset_descriptor"), none, .fields #[(S "__weakref__" 968), (.ref 573), (.builtin "ExceptionGroup.__weakref__"), .none], #[]⟩),
    (578, ⟨(.type "tuple"), none, .seq #[(S "push" 977), (S "back" 978), (S "shift" 979), (S "fill" 980), (S "unshift" 981), (S "turned" 982), (S "steps" 983), (S "store" 984), (S "pop" 985), (S "resize" 986)] 0, #[]⟩),
    (584, ⟨(.type "code"), none, .fields #[(S "_law_roll" 988), (S "_law_roll" 989), (S "/claim/cut.py" 990), (.int 347 0), (.int 2 0), (.int 0 0), (.int 0 0), (.int 3 0), (.ref 579), (.bool true), (.int 181 0), (.ref 580), .none, (.ref 581), (.ref 582), (.ref 583), (.int 993 0), (.int 347 0), (S "/claim/cut.py" 994)], #[]⟩),
    (585, fnO (stAt 52) "_law_roll" .none (S "law_sa0534_01" 973) (.ref 584)),
    (591, ⟨(.type "code"), none, .fields #[(S "_law_value" 996), (S "_law_value" 997), (S "/claim/cut.py" 998), (.int 352 0), (.int 1 0), (.int 0 0), (.int 0 0), (.int 3 0), (.ref 586), (.bool true), (.int 181 0), (.ref 587), .none, (.ref 588), (.ref 589), (.ref 590), (.int 1001 0), (.int 352 0), (S "/claim/cut.py" 1002)], #[]⟩),
    (592, fnO (stAt 53) "_law_value" .none (S "law_sa0534_01" 973) (.ref 591)),
    (596, ⟨(.type "code"), none, .fields #[(S "_law_values" 1004), (S "_law_values" 1005), (S "/claim/cut.py" 1006), (.int 359 0), (.int 2 0), (.int 0 0), (.int 0 0), (.int 3 0), (.ref 593), (.bool true), (.int 181 0), (.ref 594), .none, .none, .none, (.ref 595), (.int 1007 0), (.int 359 0), (S "/claim/cut.py" 1008)], #[]⟩),
    (597, fnO (stAt 54) "_law_values" .none (S "law_sa0534_01" 973) (.ref 596)),
    (601, ⟨(.type "code"), none, .fields #[(S "_law_told" 1010), (S "_law_told" 1011), (S "/claim/cut.py" 1012), (.int 361 0), (.int 1 0), (.int 0 0), (.int 0 0), (.int 3 0), (.ref 598), (.bool true), (.int 181 0), (.ref 599), .none, .none, .none, (.ref 600), (.int 1013 0), (.int 361 0), (S "/claim/cut.py" 1014)], #[]⟩),
    (602, fnO (stAt 55) "_law_told" .none (S "law_sa0534_01" 973) (.ref 601)),
    (608, ⟨(.type "code"), none, .fields #[(S "_law_form" 1016), (S "_law_form" 1017), (S "/claim/cut.py" 1018), (.int 363 0), (.int 4 0), (.int 0 0), (.int 0 0), (.int 3 0), (.ref 603), (.bool true), (.int 181 0), (.ref 604), .none, (.ref 605), (.ref 606), (.ref 607), (.int 1025 0), (.int 363 0), (S "/claim/cut.py" 1026)], #[]⟩),
    (609, fnO (stAt 56) "_law_form" .none (S "law_sa0534_01" 973) (.ref 608)),
    (615, ⟨(.type "code"), none, .fields #[(S "_law_splice" 1028), (S "_law_splice" 1029), (S "/claim/cut.py" 1030), (.int 367 0), (.int 5 0), (.int 0 0), (.int 0 0), (.int 3 0), (.ref 610), (.bool true), (.int 181 0), (.ref 611), .none, (.ref 612), (.ref 613), (.ref 614), (.int 1038 0), (.int 367 0), (S "/claim/cut.py" 1039)], #[]⟩),
    (616, fnO (stAt 57) "_law_splice" .none (S "law_sa0534_01" 973) (.ref 615)),
    (622, ⟨(.type "code"), none, .fields #[(S "_law_deed" 1041), (S "_law_deed" 1042), (S "/claim/cut.py" 1043), (.int 373 0), (.int 4 0), (.int 0 0), (.int 0 0), (.int 3 0), (.ref 617), (.bool true), (.int 181 0), (.ref 618), .none, (.ref 619), (.ref 620), (.ref 621), (.int 1049 0), (.int 373 0), (S "/claim/cut.py" 1050)], #[]⟩),
    (623, fnO (stAt 58) "_law_deed" .none (S "law_sa0534_01" 973) (.ref 622)),
    (629, ⟨(.type "code"), none, .fields #[(S "_law_resized" 1052), (S "_law_resized" 1053), (S "/claim/cut.py" 1054), (.int 379 0), (.int 3 0), (.int 0 0), (.int 0 0), (.int 3 0), (.ref 624), (.bool true), (.int 181 0), (.ref 625), .none, (.ref 626), (.ref 627), (.ref 628), (.int 1058 0), (.int 379 0), (S "/claim/cut.py" 1059)], #[]⟩),
    (630, fnO (stAt 59) "_law_resized" .none (S "law_sa0534_01" 973) (.ref 629)),
    (636, ⟨(.type "code"), none, .fields #[(S "_law_grown" 1061), (S "_law_grown" 1062), (S "/claim/cut.py" 1063), (.int 385 0), (.int 2 0), (.int 0 0), (.int 0 0), (.int 3 0), (.ref 631), (.bool true), (.int 181 0), (.ref 632), .none, (.ref 633), (.ref 634), (.ref 635), (.int 1077 0), (.int 385 0), (S "/claim/cut.py" 1078)], #[]⟩),
    (637, fnO (stAt 60) "_law_grown" .none (S "law_sa0534_01" 973) (.ref 636)),
    (643, ⟨(.type "code"), none, .fields #[(S "_law_shrunk" 1080), (S "_law_shrunk" 1081), (S "/claim/cut.py" 1082), (.int 401 0), (.int 2 0), (.int 0 0), (.int 0 0), (.int 3 0), (.ref 638), (.bool true), (.int 181 0), (.ref 639), .none, (.ref 640), (.ref 641), (.ref 642), (.int 1090 0), (.int 401 0), (S "/claim/cut.py" 1091)], #[]⟩),
    (644, fnO (stAt 61) "_law_shrunk" .none (S "law_sa0534_01" 973) (.ref 643)),
    (650, ⟨(.type "code"), none, .fields #[(S "_law_stored" 1093), (S "_law_stored" 1094), (S "/claim/cut.py" 1095), (.int 407 0), (.int 1 0), (.int 0 0), (.int 0 0), (.int 3 0), (.ref 645), (.bool true), (.int 181 0), (.ref 646), .none, (.ref 647), (.ref 648), (.ref 649), (.int 1102 0), (.int 407 0), (S "/claim/cut.py" 1103)], #[]⟩),
    (651, fnO (stAt 62) "_law_stored" .none (S "law_sa0534_01" 973) (.ref 650)),
    (657, ⟨(.type "code"), none, .fields #[(S "_law_spliced" 1105), (S "_law_spliced" 1106), (S "/claim/cut.py" 1107), (.int 415 0), (.int 2 0), (.int 0 0), (.int 0 0), (.int 3 0), (.ref 652), (.bool true), (.int 181 0), (.ref 653), .none, (.ref 654), (.ref 655), (.ref 656), (.int 1118 0), (.int 415 0), (S "/claim/cut.py" 1119)], #[]⟩),
    (658, fnO (stAt 63) "_law_spliced" .none (S "law_sa0534_01" 973) (.ref 657)),
    (662, ⟨(.type "code"), none, .fields #[(S "law" 1121), (S "law" 1122), (S "/claim/cut.py" 1123), (.int 434 0), (.int 1 0), (.int 0 0), (.int 0 0), (.int 3 0), (.ref 659), (.bool true), (.int 181 0), (.ref 660), .none, .none, .none, (.ref 661), (.int 1124 0), (.int 434 0), (S "/claim/cut.py" 1125)], #[]⟩),
    (663, fnO (stAt 64) "law" .none (S "law_sa0534_01" 973) (.ref 662))]
noncomputable def benv : Env := { scope := pg.main.scope, locals := mainNs, globals := mainNs, cells := [], code := .ref 13, frame := some 14 }
noncomputable abbrev bd : List Stmt := behindTheImports pg
noncomputable abbrev cE : Code := Code.body bd benv
noncomputable abbrev p0 : Pos := ⟨0, 0, 0, 0⟩
noncomputable def o11 : Obj := { cls := .type "tuple", data := .seq #[] }
noncomputable def o12 : Obj := { cls := .none, data := .fields #[] }
noncomputable def o13 : Obj := { cls := .type "code", data := .fields #[S "<module>" 182, S "<module>" 183, S "/claim/cut.py" 184, .int 1 0, .int 0 0, .int 0 0, .int 0 0, .int 0 0, .ref 11, .bool false, .int 181 0, .ref 12, .none, .none, .none, .none, .int 185 0, .int 1 0, S "/claim/cut.py" 186] }
noncomputable def o14 : Obj := { cls := .type "frame", slots := #[some (.ref 13), some (.ref 3), some (.ref 3), none, some (S "__main__" 164), none, some (.ref 0)] }
noncomputable def tr (P : Params) : BT :=
  .node (boot_o_0 P)
    (.node (boot_o_1 P)
      (.node (boot_o_3 P) (.node (boot_o_7 P) .nil .nil) (.node o11 .nil .nil))
      (.node (boot_o_5 P) (.node (boot_o_9 P) .nil .nil) (.node o13 .nil .nil)))
    (.node (boot_o_2 P)
      (.node (boot_o_4 P) (.node (boot_o_8 P) .nil .nil) (.node o12 .nil .nil))
      (.node (boot_o_6 P) (.node (boot_o_10 P) .nil .nil) (.node o14 .nil .nil)))
noncomputable abbrev sT (w : World) (os : OsState) : SharedT := ⟨tr w.params, 15, {}, #[], boot_drawn, 187, os⟩
noncomputable def q : Program := { pg with main := { pg.main with body := [stAt 64] } }
noncomputable def loose : List Str := pg.boundNames.filter (· != ("law" : Str))
noncomputable abbrev Xt : Shared → Bool := fun s => xlAt q [] s && recOk (RowW.records (PySem.Challenge.rw_sa0534_01.row.toRowW)) s
noncomputable def as : List Addr := [2, 3, 20, 21, 34, 35, 37, 38, 39, 40, 55, 56, 58, 59, 74, 75, 77, 78, 93, 94, 96, 97, 112, 113, 115, 116, 131, 132, 134, 135, 145, 151, 152, 154, 155, 156, 157, 172, 173, 179, 180, 186, 187, 193, 194, 200, 201, 207, 208, 214, 215, 217, 218, 219, 220, 228, 229, 242, 243, 245, 246, 247, 262, 263, 265, 266, 272, 273, 279, 280, 284, 285, 291, 292, 298, 299, 305, 306, 312, 313, 319, 320, 326, 327, 333, 334, 340, 341, 347, 348, 354, 355, 361, 362, 368, 369, 375, 376, 382, 383, 389, 390, 394, 395, 399, 400, 406, 407, 413, 414, 427, 428, 430, 431, 432, 433, 441, 442, 446, 447, 453, 454, 458, 459, 472, 473, 479, 480, 486, 487, 493, 494, 500, 501, 505, 506, 512, 513, 519, 520, 526, 527, 533, 534, 540, 541, 547, 548, 550, 551, 552, 553, 563, 569, 570, 572, 573, 574, 575, 578, 584, 585, 591, 592, 596, 597, 601, 602, 608, 609, 615, 616, 622, 623, 629, 630, 636, 637, 643, 644, 650, 651, 657, 658, 662, 663]
noncomputable abbrev Hk : Hook := kHook K as (fun _ => by kernel_rfl)
noncomputable def looksOf (w : World) (s : Shared) :=
  ((staticsOk (importedModules pg.main.body) (boot_heap w.params) s.heap && namesBound pg s.heap && gensDone s && laidKept (boot_heap w.params) s.heap),
    openSeen q loose (importedModules pg.main.body) Xt true s, Hk.obs s)
theorem pre (w : World) (os : OsState) : topGo treeTable pg w 11 (some (.ref 6)) 12 ⟨boot_heap w.params, #[], boot_drawn, boot_toks, os⟩ (topStub pg) =
    some ((sT w os).abs, ⟨denote treeTable cE, cE, p0, [topFrame p0]⟩) := by kernel_rfl
theorem block (w : World) (os : OsState) : segRun treeTable pg w 11 (some (.ref 6)) 1 1 (sT w os).abs (blockOf bd benv cE p0 [topFrame p0]) = some (.next, (sT w os).abs, cE, p0) := by kernel_rfl
theorem size_ (w : World) : ((boot_heap w.params).isNs mainGlobals && (#[] : Array GenState).size == 0, (boot_heap w.params).objs.size, (boot_heap w.params).nsMap mainGlobals "__annotations__") = (true, 11, some (.ref 6)) := by kernel_rfl
theorem runAll (w : World) (os : OsState) :
    (PySem.W.Fast.tw10110043849684766642 PySem.W.Fast.tw14364793385576792824 pg w 11 (some (.ref 6)) 1 5200 (sT w os) (piecesOf bd benv cE p0 [topFrame p0])).map
      (fun r => (r.1, r.2.2.1, looksOf w r.2.1.abs)) = some (Flow.next, cE, true, openGood q loose, Hk.val w) := by kernel_rfl
end Mine
end
section
open PySem PySem.W PyProof.Rows
set_option maxRecDepth 100000
set_option maxHeartbeats 0
namespace Mine
theorem left_of {p q : Program} {loose : List Str} {Xt : Shared → Bool} {α : Type} {Yf : Shared → α} {Ya : World → α} {N : Nat} {g0 : Bool} {H₀ : Params → Heap} {gs₀ : Array GenState} {d₀ : Drawn} {k₀ : Nat} {m₀ : Nat} {ann : Option Value} {M : Nat}
    (open_ : ∀ w : World, (fencedOpening treeTable p w N).map (fun s => (s.heap, s.gens, s.drawn, s.toks)) = some (H₀ w.params, gs₀, d₀, k₀))
    (size : ∀ w : World, ((H₀ w.params).isNs mainGlobals && gs₀.size == 0, (H₀ w.params).objs.size, (H₀ w.params).nsMap mainGlobals "__annotations__") = (true, m₀, ann))
    (run : ∀ (w : World) (os : OsState), ∃ s₁, topRun treeTable p w m₀ ann M ⟨H₀ w.params, gs₀, d₀, k₀, os⟩ (topStub p) = some s₁ ∧
      (staticsOk (importedModules p.main.body) (H₀ w.params) s₁.heap && namesBound p s₁.heap && gensDone s₁ && laidKept (H₀ w.params) s₁.heap) = true ∧
      openSeen q loose (importedModules p.main.body) Xt g0 s₁ = openGood q loose ∧ Yf s₁ = Ya w) (le : Nat.ble M N = true) : LeftO p q loose Xt Yf Ya N g0 := fun w => by
  obtain ⟨⟨h, gs, d, k, os⟩, e, e'⟩ := Option.map_eq_some_iff.mp (open_ w)
  obtain ⟨rfl, rfl, rfl, rfl⟩ : h = H₀ w.params ∧ gs = gs₀ ∧ d = d₀ ∧ k = k₀ := by simpa using e'
  obtain ⟨z1, z2, z3⟩ : _ ∧ _ ∧ _ := by simpa only [Prod.mk.injEq] using size w
  obtain ⟨s₁, r, l1, l2, l3⟩ := run w os
  have r := topRun_mono (N - M) _ _ _ _ r
  rw [show M + (N - M) = N by have := Nat.le_of_ble_eq_true le; omega] at r
  have t : topFrom treeTable p w N ⟨H₀ w.params, gs, d, k, os⟩ = some s₁ := by
    unfold topFrom
    dsimp only
    rw [z1, z2, z3, r]
    show (match staticsOk (importedModules p.main.body) (H₀ w.params) s₁.heap && namesBound p s₁.heap && gensDone s₁ && laidKept (H₀ w.params) s₁.heap with | true => _ | false => _) = _
    rw [l1]
  unfold openEnds
  rw [e]
  show (topFrom treeTable p w N _).map _ = _
  rw [t]
  exact congrArg some (Prod.ext l2 l3)
theorem fin_ (w : World) (s : Shared) (p : Pos) : topRun treeTable pg w 11 (some (.ref 6)) 2 s ⟨doneF .next, cE, p, [topFrame p0]⟩ = some s := by
  obtain ⟨h, g, d, t, o⟩ := s; kernel_rfl
theorem left : LeftO pg q loose Xt Hk.obs Hk.val 11000 := by
  refine left_of (M := 12 + (1 + (5200 + 2))) (boot_open (p := pg) (N := 11000) (by kernel_rfl) (by decide +kernel) (fun s => by kernel_rfl)) size_ (fun w os => ?_) (by decide +kernel)
  have R := runAll w os
  rw [← PySem.W.Fast.te10110043849684766642, ← PySem.W.Fast.te14364793385576792824] at R
  obtain ⟨⟨f, s', c, p'⟩, e, e'⟩ := Option.map_eq_some_iff.mp R
  simp only [Prod.mk.injEq, looksOf] at e'
  obtain ⟨rfl, rfl, l1, l2, l3⟩ := e'
  refine ⟨s'.abs, ?_, l1, l2, l3⟩
  refine go_top (pre w os) (piece_block (block w os) ?_)
  have a := piece_app (rest := []) (segRun_of e) (piece_nil (fin_ w s'.abs p'))
  rwa [List.append_nil] at a
end Mine
end
section
open PySem PySem.W PyProof.Rows
set_option maxRecDepth 100000
set_option maxHeartbeats 0
namespace Mine
theorem said : PySem.Challenge.rw_sa0534_01.wellSaid = true := by kernel_rfl
theorem ok1 : (chainsOk q && opensWell PySem.Challenge.rw_sa0534_01.row.prog && (frees PySem.Challenge.rw_sa0534_01.row.toRowW && PySem.Challenge.rw_sa0534_01.row.within.isEmpty)) = true := by kernel_rfl
theorem bare1 : PySem.Challenge.rw_sa0534_01.row.prog.bare := ⟨rfl, rfl, rfl, rfl, rfl, by decide +kernel⟩
theorem wit1 : PySem.Challenge.rw_sa0534_01.row.toRowW.promised := by w_witness2
end Mine
end
section
open PySem PySem.W PySem.Calls PyProof.Rows
set_option maxRecDepth 100000
namespace Mine
noncomputable def er : Value → Value
  | .int i _ => .int i 0
  | .str s _ => .str s 0
  | v => v
theorem er_ref {v : Value} {a : Addr} (h : er v = .ref a) : v = .ref a := by cases v <;> first | exact h | cases h
theorem er_none {v : Value} (h : er v = .none) : v = .none := by cases v <;> first | exact h | cases h
theorem er_bool {v : Value} {b : Bool} (h : er v = .bool b) : v = .bool b := by cases v <;> first | exact h | cases h
theorem er_int {v : Value} {i : Int} {t : Tok} (h : er v = .int i t) : ∃ t', v = .int i t' := by
  cases v <;> first | (cases h; exact ⟨_, rfl⟩) | cases h
theorem er_str {v : Value} {x : Str} {t : Tok} (h : er v = .str x t) : ∃ t', v = .str x t' := by
  cases v <;> first | (cases h; exact ⟨_, rfl⟩) | cases h
inductive SO where
  | inst (C d : Addr)
  | dict (fs : List (Str × Value))
  | list (xs : List Value)
  | tup (xs : List Value)
  | ns (m : List (Str × Value))
  | cell (v : Option Value)
  | raw (φ : Obj → Prop)
noncomputable def All2 {α β : Type} (R : α → β → Prop) : List α → List β → Prop
  | [], [] => True
  | a :: as, b :: bs => R a b ∧ All2 R as bs
  | _, _ => False
noncomputable def KeyIs (P : Params) (e : DictEntry) (f : Str × Value) : Prop := (∃ t, e.key = .str f.1 t) ∧ e.hash = PyData.keyHash P f.1 ∧ er e.val = f.2
noncomputable def SO.Is (P : Params) : SO → Obj → Prop
  | .inst C d, o => o = instObj C d
  | .dict fs, o => ∃ es n, o = dictOf es n ∧ All2 (KeyIs P) es fs
  | .list xs, o => ∃ (vs : List Value) (n : Nat), o = listOf vs.toArray n ∧ vs.map er = xs
  | .tup xs, o => ∃ (vs : List Value) (n : Nat), o = { cls := .type "tuple", data := .seq vs.toArray n } ∧ vs.map er = xs
  | .ns m, o => ∃ es ep, o.data = .dict es ep ∧ StrKeys es ∧ ∀ x, nsFind es x = m.lookup x
  | .cell v, o => o.data = .cell v
  | .raw φ, o => φ o
noncomputable abbrev Led := List (Addr × SO)
structure Gd (w : World) (s₀ : Shared) : Prop where
  K : (Mine.K w.params).In s₀.heap
  nolimit : s₀.heap.NoLimit
  b : ∃ mb, s₀.heap.Ns builtinsNs mb ∧ ∀ x : Str, x ≠ "__name__" → mb x = bootBuiltins x
  g : ∃ mg, s₀.heap.Ns mainGlobals mg
structure Sp (w : World) (s₀ : Shared) (W : Led) (s : Shared) : Prop where
  gd : Gd w s₀
  rest : s.gens = s₀.gens ∧ s.drawn = s₀.drawn ∧ s.os = s₀.os
  keep : ∀ b o, s₀.heap.get? b = some o → s.heap.get? b = some o
  at_ : ∀ p ∈ W, ∃ o, s.heap.get? p.1 = some o ∧ p.2.Is w.params o
  nodup : (W.map (·.1)).Nodup
  out : ∀ p ∈ W, s₀.heap.objs.size ≤ p.1
  big : s₀.heap.objs.size ≤ s.heap.objs.size
variable {w : World} {s₀ s : Shared} {W W' T : Led}
theorem Sp.K (S : Sp w s₀ W s) : (Mine.K w.params).In s.heap := fun a o e => S.keep a o (S.gd.K a o e)
theorem Sp.nolimit (S : Sp w s₀ W s) : s.heap.NoLimit := S.gd.nolimit.keeps S.keep
theorem Sp.perm (S : Sp w s₀ W s) (h : W.Perm W') : Sp w s₀ W' s :=
  ⟨S.gd, S.rest, S.keep, fun p hp => S.at_ p (h.mem_iff.mpr hp), (h.map _).nodup_iff.mp S.nodup, fun p hp => S.out p (h.mem_iff.mpr hp), S.big⟩
theorem Sp.sub (S : Sp w s₀ W s) (h : W'.Sublist W) : Sp w s₀ W' s :=
  ⟨S.gd, S.rest, S.keep, fun p hp => S.at_ p (h.subset hp), (h.map _).nodup S.nodup, fun p hp => S.out p (h.subset hp), S.big⟩
theorem Sp.toks (S : Sp w s₀ W s) (t : Tok) : Sp w s₀ W { s with toks := t } := ⟨S.gd, S.rest, S.keep, S.at_, S.nodup, S.out, S.big⟩
theorem Sp.lt (S : Sp w s₀ W s) {p : Addr × SO} (h : p ∈ W) : p.1 < s.heap.objs.size := let ⟨_, e, _⟩ := S.at_ p h; Heap.lt_size e
theorem Sp.grow (S : Sp w s₀ W s) {h' : Heap} {t : Tok} (k : ∀ b o, s.heap.get? b = some o → h'.get? b = some o) (hb : s.heap.objs.size ≤ h'.objs.size) : Sp w s₀ W { s with heap := h', toks := t } :=
  ⟨S.gd, S.rest, fun b o e => k b o (S.keep b o e), fun p hp => let ⟨o, e, x⟩ := S.at_ p hp; ⟨o, k _ _ e, x⟩, S.nodup, S.out, Nat.le_trans S.big hb⟩
theorem Sp.add (S : Sp w s₀ W s) {h' : Heap} {t : Tok} {a : Addr} {o : Obj} {x : SO} (k : ∀ b o, s.heap.get? b = some o → h'.get? b = some o)
    (e : h'.get? a = some o) (hx : x.Is w.params o) (hn : s.heap.objs.size ≤ a) : Sp w s₀ ((a, x) :: W) { s with heap := h', toks := t } := by
  have S' := S.grow (t := t) k (Nat.le_trans hn (Nat.le_of_lt (Heap.lt_size e)))
  refine ⟨S.gd, S.rest, S'.keep, fun p hp => ?_, ?_, fun p hp => ?_, S'.big⟩
  · rcases List.mem_cons.mp hp with rfl | hp
    · exact ⟨o, e, hx⟩
    · exact S'.at_ p hp
  · rw [List.map_cons, List.nodup_cons]
    refine ⟨fun hm => ?_, S.nodup⟩
    obtain ⟨p, hp, hp'⟩ := List.mem_map.mp hm
    have := S.lt hp
    rw [hp'] at this; exact Nat.lt_irrefl _ (Nat.lt_of_lt_of_le this hn)
  · rcases List.mem_cons.mp hp with rfl | hp
    · exact Nat.le_trans S.big hn
    · exact S.out p hp
theorem none_size (h : Heap) : h.get? h.objs.size = none := by
  cases q : h.get? h.objs.size with
  | none => rfl
  | some o => exact absurd (Heap.lt_size q) (Nat.lt_irrefl _)
theorem Sp.push (S : Sp w s₀ W s) {t : Tok} {o : Obj} {x : SO} (hx : x.Is w.params o) (hf : o.isFreed = false := by rfl) : Sp w s₀ ((s.heap.objs.size, x) :: W) { s with heap := s.heap.push o, toks := t } :=
  S.add (fun _ _ e => Heap.get?_push_of_some o e) (Heap.get?_push_size _ hf) hx (Nat.le_refl _)
noncomputable def Upd (W : Led) (a : Addr) (x y : SO) (W' : Led) : Prop := ∃ k, W[k]? = some (a, x) ∧ W' = W.set k (a, y)
theorem Upd.head {a : Addr} {x y : SO} : Upd ((a, x) :: T) a x y ((a, y) :: T) := ⟨0, rfl, rfl⟩
theorem Upd.tail {a : Addr} {x y : SO} {p : Addr × SO} (h : Upd W a x y W') : Upd (p :: W) a x y (p :: W') := let ⟨k, e, e'⟩ := h; ⟨k + 1, e, by rw [e']; rfl⟩
theorem Upd.left {a : Addr} {x y : SO} (h : Upd W a x y W') : Upd (W ++ T) a x y (W' ++ T) := by
  obtain ⟨k, e, rfl⟩ := h
  have hk := (List.getElem?_eq_some_iff.mp e).1
  exact ⟨k, by rw [List.getElem?_append_left hk]; exact e, by rw [List.set_append_left _ _ hk]⟩
theorem Upd.right {a : Addr} {x y : SO} (h : Upd W a x y W') : Upd (T ++ W) a x y (T ++ W') := by
  obtain ⟨k, e, rfl⟩ := h
  exact ⟨T.length + k, by rw [List.getElem?_append_right (Nat.le_add_right _ _), Nat.add_sub_cancel_left]; exact e, by rw [List.set_append_right _ _ (Nat.le_add_right _ _), Nat.add_sub_cancel_left]⟩
theorem Upd.mem {a : Addr} {x y : SO} (h : Upd W a x y W') : (a, x) ∈ W := let ⟨_, e, _⟩ := h; List.mem_of_getElem? e
theorem Upd.addrs {a : Addr} {x y : SO} (h : Upd W a x y W') : W'.map (·.1) = W.map (·.1) := by
  obtain ⟨k, e, rfl⟩ := h
  rw [List.map_set]
  apply List.ext_getElem?
  intro i
  rw [List.getElem?_set]
  split
  · rename_i q; subst q
    have hk := (List.getElem?_eq_some_iff.mp e).1
    have e1 := (List.getElem?_eq_some_iff.mp e).2
    simp [hk, e1]
  · rfl
theorem nodup_inj {W : Led} (n : (W.map (·.1)).Nodup) {i j : Nat} {a : Addr} {x y : SO} (hi : W[i]? = some (a, x)) (hj : W[j]? = some (a, y)) : i = j := by
  have hi' : (W.map (·.1))[i]? = some a := by rw [List.getElem?_map, hi]; rfl
  have hj' : (W.map (·.1))[j]? = some a := by rw [List.getElem?_map, hj]; rfl
  exact (List.getElem?_inj (List.getElem?_eq_some_iff.mp hi').1 n).mp (hi'.trans hj'.symm)
theorem Sp.change (S : Sp w s₀ W s) {h' : Heap} {t : Tok} {a : Addr} {x y : SO} {o' : Obj} (U : Upd W a x y W')
    (hs : ∀ b o, b ≠ a → s.heap.get? b = some o → h'.get? b = some o) (e : h'.get? a = some o') (hy : y.Is w.params o') (hb : s.heap.objs.size ≤ h'.objs.size) : Sp w s₀ W' { s with heap := h', toks := t } := by
  have ha := U.addrs
  have hm := U.mem
  obtain ⟨k, ek, rfl⟩ := U
  refine ⟨S.gd, S.rest, fun b o q => hs b o (fun q' => ?_) (S.keep b o q), fun p hp => ?_, by rw [ha]; exact S.nodup, fun p hp => ?_, Nat.le_trans S.big hb⟩
  · subst q'; exact Nat.lt_irrefl _ (Nat.lt_of_lt_of_le (Heap.lt_size q) (S.out _ hm))
  · obtain ⟨i, hi⟩ := List.getElem?_of_mem hp
    rw [List.getElem?_set] at hi
    split at hi
    · split at hi
      · cases hi; exact ⟨o', e, hy⟩
      · cases hi
    · rename_i hki
      obtain ⟨o, e1, e2⟩ := S.at_ p (List.mem_of_getElem? hi)
      refine ⟨o, hs _ _ (fun q => ?_) e1, e2⟩
      obtain ⟨b, z⟩ := p
      subst q
      exact hki (nodup_inj S.nodup ek hi)
  · obtain ⟨i, hi⟩ := List.getElem?_of_mem hp
    have : p.1 ∈ W.map (·.1) := by rw [← ha]; exact List.mem_map_of_mem hp
    obtain ⟨p', hp', e'⟩ := List.mem_map.mp this
    rw [← e']; exact S.out p' hp'
theorem Sp.change' (S : Sp w s₀ W s) {h' : Heap} {t : Tok} {a : Addr} {x y : SO} {o' : Obj} (U : Upd W a x y W')
    (hs : Heap.SameBut a s.heap h') (e : h'.get? a = some o') (hy : y.Is w.params o') : Sp w s₀ W' { s with heap := h', toks := t } :=
  S.change U (fun b o hb q => (hs.2 b hb).trans q) e hy (Nat.le_of_eq hs.1.symm)
theorem Sp.inst {x C d : Addr} (S : Sp w s₀ W s) (h : (x, .inst C d) ∈ W) : s.heap.get? x = some (instObj C d) := let ⟨_, e, q⟩ := S.at_ _ h; by cases q; exact e
theorem Sp.dict {d : Addr} {fs : List (Str × Value)} (S : Sp w s₀ W s) (h : (d, .dict fs) ∈ W) : ∃ es n, s.heap.get? d = some (dictOf es n) ∧ All2 (KeyIs w.params) es fs :=
  let ⟨_, e, es, n, q, z⟩ := S.at_ _ h; ⟨es, n, q ▸ e, z⟩
theorem Sp.list {d : Addr} {xs : List Value} (S : Sp w s₀ W s) (h : (d, .list xs) ∈ W) : ∃ (vs : List Value) (n : Nat), s.heap.get? d = some (listOf vs.toArray n) ∧ vs.map er = xs :=
  let ⟨_, e, es, n, q, z⟩ := S.at_ _ h; ⟨es, n, q ▸ e, z⟩
theorem Sp.tup {d : Addr} {xs : List Value} (S : Sp w s₀ W s) (h : (d, .tup xs) ∈ W) : ∃ (vs : List Value) (n : Nat), s.heap.get? d = some { cls := .type "tuple", data := .seq vs.toArray n } ∧ vs.map er = xs :=
  let ⟨_, e, es, n, q, z⟩ := S.at_ _ h; ⟨es, n, q ▸ e, z⟩
theorem Sp.ns {L : Addr} {m : List (Str × Value)} (S : Sp w s₀ W s) (h : (L, .ns m) ∈ W) : s.heap.Ns L (fun x => m.lookup x) :=
  let ⟨o, e, es, ep, h1, h2, h3⟩ := S.at_ _ h; ⟨o, es, ep, e, h1, h2, h3⟩
theorem Sp.cell {c : Addr} {v : Option Value} (S : Sp w s₀ W s) (h : (c, .cell v) ∈ W) : s.heap.IsCell c v := let ⟨_, e, q⟩ := S.at_ _ h; ⟨_, e, q⟩
theorem Sp.ne (S : Sp w s₀ W s) {a b : Addr} {x y : SO} (ha : (a, x) ∈ W) (hb : (b, y) ∈ W) (hxy : x ≠ y) : a ≠ b := fun q => by
  subst q
  obtain ⟨i, hi⟩ := List.getElem?_of_mem ha
  obtain ⟨j, hj⟩ := List.getElem?_of_mem hb
  have := nodup_inj S.nodup hi hj
  subst this
  rw [hi] at hj; cases hj; exact hxy rfl
noncomputable def put : List (Str × Value) → Str → Value → List (Str × Value)
  | [], k, v => [(k, v)]
  | (k', v') :: r, k, v => if k' = k then (k', v) :: r else (k', v') :: put r k v
theorem All2.length {α β : Type} {R : α → β → Prop} : ∀ {as : List α} {bs : List β}, All2 R as bs → as.length = bs.length
  | [], [], _ => rfl
  | _ :: _, _ :: _, h => by rw [List.length_cons, List.length_cons, h.2.length]
  | [], _ :: _, h => h.elim
  | _ :: _, [], h => h.elim
theorem KeyIs.isStr {P : Params} {e : DictEntry} {f : Str × Value} (h : KeyIs P e f) (x : Str) : e.key.isStr x = decide (f.1 = x) := by
  obtain ⟨⟨t, q⟩, _⟩ := h
  rw [q]
  show (f.1 == x) = _
  by_cases e : f.1 = x <;> simp [e]
theorem KeyIs.refKey {P : Params} {e : DictEntry} {f : Str × Value} (h : KeyIs P e f) : e.refKey = false := by
  obtain ⟨⟨t, q⟩, _⟩ := h
  unfold DictEntry.refKey
  rw [q]
theorem all2_norefs {P : Params} : ∀ {es : List DictEntry} {fs : List (Str × Value)}, All2 (KeyIs P) es fs → es.any (·.refKey) = false
  | [], [], _ => rfl
  | _ :: _, _ :: _, h => by rw [List.any_cons, h.1.refKey, all2_norefs h.2]; rfl
  | [], _ :: _, h => h.elim
  | _ :: _, [], h => h.elim
theorem all2_find {P : Params} {x : Str} : ∀ {es : List DictEntry} {fs : List (Str × Value)}, All2 (KeyIs P) es fs → (es.find? (·.key.isStr x)).map (fun e => er e.val) = fs.lookup x
  | [], [], _ => rfl
  | e :: es, f :: fs, h => by
    obtain ⟨k, v⟩ := f
    have hk := h.1.isStr x
    rw [List.find?_cons, List.lookup_cons]
    by_cases q : k = x
    · subst q
      simp only [decide_true] at hk
      rw [hk]; simp only [beq_self_eq_true, Option.map_some]
      rw [h.1.2.2]
    · have q' : (x == k) = false := by simpa using fun e : x = k => q e.symm
      simp only [decide_eq_false q] at hk
      rw [hk, q']
      exact all2_find h.2
  | [], _ :: _, h => h.elim
  | _ :: _, [], h => h.elim
theorem getL_of {P : Params} {es : List DictEntry} {fs : List (Str × Value)} (h : All2 (KeyIs P) es fs) {x : Str} {v : Value} (e : fs.lookup x = some v) : ∃ v', getL x es = some (some v') ∧ er v' = v := by
  have q := all2_find (x := x) h
  rw [e] at q
  obtain ⟨en, q1, q2⟩ := Option.map_eq_some_iff.mp q
  refine ⟨en.val, ?_, q2⟩
  unfold getL
  rw [q1]
theorem getL_none {P : Params} {es : List DictEntry} {fs : List (Str × Value)} (h : All2 (KeyIs P) es fs) {x : Str} (e : fs.lookup x = none) : getL x es = some none := by
  have q := all2_find (x := x) h
  rw [e, Option.map_eq_none_iff] at q
  unfold getL
  rw [q, all2_norefs h]; rfl
theorem all2_put {P : Params} {x : Str} {v : Value} {t : Tok} : ∀ {es : List DictEntry} {fs : List (Str × Value)}, All2 (KeyIs P) es fs →
    ∃ es', All2 (KeyIs P) es' (put fs x (er v)) ∧ es'.length ≤ es.length + 1 ∧
      ((∃ i, es.findIdx? (·.key.isStr x) = some i ∧ es' = es.modify i fun e => { e with val := v }) ∨ (es.findIdx? (·.key.isStr x) = none ∧ es' = es ++ [⟨PyData.keyHash P x, .str x t, v⟩]))
  | [], [], _ => ⟨[⟨PyData.keyHash P x, .str x t, v⟩], ⟨⟨⟨t, rfl⟩, rfl, rfl⟩, trivial⟩, Nat.le_refl _, .inr ⟨rfl, rfl⟩⟩
  | e :: es, (k, u) :: fs, h => by
    have hk := h.1.isStr x
    by_cases q : k = x
    · subst q
      simp only [decide_true] at hk
      refine ⟨{ e with val := v } :: es, ?_, by simp, .inl ⟨0, by rw [List.findIdx?_cons, hk]; rfl, rfl⟩⟩
      show All2 _ _ (if k = k then _ else _)
      rw [if_pos rfl]
      exact ⟨⟨h.1.1, h.1.2.1, rfl⟩, h.2⟩
    · simp only [decide_eq_false q] at hk
      obtain ⟨es', a, l, b⟩ := all2_put (x := x) (v := v) (t := t) h.2
      refine ⟨e :: es', ?_, by simp only [List.length_cons]; lia, ?_⟩
      · show All2 _ _ (if k = x then _ else _)
        rw [if_neg q]; exact ⟨h.1, a⟩
      · rcases b with ⟨i, b1, b2⟩ | ⟨b1, b2⟩
        · exact .inl ⟨i + 1, by rw [List.findIdx?_cons, hk]; simp [b1], by rw [b2]; rfl⟩
        · exact .inr ⟨by rw [List.findIdx?_cons, hk]; simp [b1], by rw [b2]; rfl⟩
  | [], _ :: _, h => h.elim
  | _ :: _, [], h => h.elim
theorem putName_of {P : Params} {es : List DictEntry} {fs : List (Str × Value)} (h : All2 (KeyIs P) es fs) (n : Nat) (x : Str) (t : Tok) (v : Value) :
    ∃ es' n', Obj.putName x (PyData.keyHash P x) (.str x t) v (dictOf es n) = dictOf es' n' ∧ All2 (KeyIs P) es' (put fs x (er v)) ∧ es'.length ≤ es.length + 1 := by
  obtain ⟨es', a, l, b⟩ := all2_put (x := x) (v := v) (t := t) h
  rw [Obj.putName_eq]
  unfold Obj.putNameByArray
  dsimp only
  rcases b with ⟨i, b1, b2⟩ | ⟨b1, b2⟩
  · refine ⟨es', n, ?_, a, l⟩
    rw [List.findIdx?_toArray, b1]
    simp only [List.modify_toArray, b2]
  · refine ⟨es', n + 1, ?_, a, l⟩
    rw [List.findIdx?_toArray, b1]
    simp only [List.push_toArray, b2]
end Mine
end
section
open PySem PySem.W PySem.Calls PyProof.Rows
set_option maxRecDepth 100000
namespace Mine
section
variable {w : World} {s₀ s : Shared} {W W' T : Led} {A : Around} {E : Value → Shared → Prop} {env : Env}
theorem lookup_put (m : List (Str × Value)) (x : Str) (v : Value) (y : Str) : (put m x v).lookup y = if y = x then some v else m.lookup y := by
  induction m with
  | nil => show List.lookup y [(x, v)] = _; rw [List.lookup_cons]
           by_cases q : y = x
           · simp [q]
           · rw [beq_eq_false_iff_ne.mpr q, if_neg q]
  | cons p m ih =>
    obtain ⟨k, u⟩ := p
    show List.lookup y (if k = x then _ else _) = _
    by_cases q : k = x
    · subst q
      rw [if_pos rfl, List.lookup_cons, List.lookup_cons]
      by_cases z : y = k
      · simp [z]
      · rw [beq_eq_false_iff_ne.mpr z, if_neg z]
    · rw [if_neg q, List.lookup_cons, List.lookup_cons, ih]
      by_cases z : y = k
      · subst z; simp [q]
      · have : (y == k) = false := by simpa using z
        rw [this]
theorem nmL {x : Str} {pos : Pos} {L : Addr} {m : List (Str × Value)} {v : Value} {Q : Value → Shared → Prop} (S : Sp w s₀ W s) (hm : (L, .ns m) ∈ W) (hv : m.lookup x = some v) (h : Q v s)
    (he : env.locals = L := by rfl) (hk : env.scope.kind = .function := by rfl) (hl : env.kindOf x = some .local := by rfl) (hd : (x == ("__debug__" : Str)) = false := by decide) :
    wpAny (model pg w) A (eval (.Name x pos) env) Q E s := wpAny_Name (wpAny_loadName_local hk hl (he ▸ S.ns hm) hv h) hd
theorem ldL {x : Str} {L : Addr} {m : List (Str × Value)} {v : Value} {Q : Value → Shared → Prop} (S : Sp w s₀ W s) (hm : (L, .ns m) ∈ W) (hv : m.lookup x = some v) (h : Q v s)
    (he : env.locals = L := by rfl) (hk : env.scope.kind = .function := by rfl) (hl : env.kindOf x = some .local := by rfl) :
    wpAny (model pg w) A (loadName env x) Q E s := wpAny_loadName_local hk hl (he ▸ S.ns hm) hv h
theorem nmC {x : Str} {pos : Pos} {c : Addr} {v : Value} {Q : Value → Shared → Prop} (S : Sp w s₀ W s) (hm : (c, .cell (some v)) ∈ W) (h : Q v s)
    (hc : env.cells.lookup x = some c := by rfl) (hk : env.scope.kind = .function := by rfl) (hl : env.kindOf x = some .cell := by rfl) (hd : (x == ("__debug__" : Str)) = false := by decide) :
    wpAny (model pg w) A (eval (.Name x pos) env) Q E s := wpAny_Name (wpAny_loadName_cell hk hl hc (S.cell hm) h) hd
theorem nmF {x : Str} {pos : Pos} {c : Addr} {v : Value} {Q : Value → Shared → Prop} (S : Sp w s₀ W s) (hm : (c, .cell (some v)) ∈ W) (h : Q v s)
    (hc : env.cells.lookup x = some c := by rfl) (hk : env.scope.kind = .function := by rfl) (hl : env.kindOf x = some .free := by rfl) (hn : (x == ("__classdict__" : Str)) = false := by decide) (hd : (x == ("__debug__" : Str)) = false := by decide) :
    wpAny (model pg w) A (eval (.Name x pos) env) Q E s := wpAny_Name (wpAny_loadName_free hk hl hc (S.cell hm) h (hn := hn)) hd
theorem nmG {x : Str} {pos : Pos} {v : Value} {Q : Value → Shared → Prop} (S : Sp w s₀ W s) (e : nsIn (K w.params) mainGlobals x = some (some v)) (h : Q v s)
    (hg : env.globals = mainGlobals := by rfl) (hk : env.scope.kind = .function := by rfl) (hl : env.kindOf x = some .globalImplicit := by rfl) (hd : (x == ("__debug__" : Str)) = false := by decide) :
    wpAny (model pg w) A (eval (.Name x pos) env) Q E s := by
  refine Name_function_global hk hl ?_ hd
  unfold loadGlobal
  rw [hg]
  exact wpAny_bind ((looks_nsIn S.K e).here (wpAny_pure h))
theorem nmB {x : Str} {pos : Pos} {v : Value} {Q : Value → Shared → Prop} (S : Sp w s₀ W s) (e : nsIn (K w.params) mainGlobals x = some none) (hv : bootBuiltins x = some v) (h : Q v s)
    (hn : x ≠ ("__name__" : Str) := by decide) (hg : env.globals = mainGlobals := by rfl) (hb : env.builtins = builtinsNs := by rfl) (hk : env.scope.kind = .function := by rfl) (hl : env.kindOf x = some .globalImplicit := by rfl) (hd : (x == ("__debug__" : Str)) = false := by decide) :
    wpAny (model pg w) A (eval (.Name x pos) env) Q E s := by
  obtain ⟨mb, b1, b2⟩ := S.gd.b
  refine Name_function_global hk hl ?_ hd
  unfold loadGlobal
  rw [hg, hb]
  refine wpAny_bind ((looks_nsIn S.K e).here (wpAny_bind (wpAny_nsGet (b1.keeps S.keep) ?_)))
  rw [b2 x hn, hv]
  exact wpAny_pure h
theorem stL {x : Str} {L : Addr} {m : List (Str × Value)} {v : Value} {Q : Unit → Shared → Prop} (S : Sp w s₀ W s) (U : Upd W L (.ns m) (.ns (put m x v)) W') (h : ∀ s', Sp w s₀ W' s' → Q () s')
    (he : env.locals = L := by rfl) (hk : env.scope.kind = .function := by rfl) (hl : env.kindOf x = some .local := by rfl) : wpAny (model pg w) A (storeName env x v) Q E s := by
  refine wpAny_storeName_local hl (he ▸ S.ns U.mem) (fun h' hn hs => ?_) (by rw [hk]; rfl)
  obtain ⟨o, es, ep, h1, h2, h3, h4⟩ := hn
  rw [he] at hs h1
  refine h _ (S.change' U hs h1 ⟨es, ep, h2, h3, fun y => ?_⟩)
  rw [h4 y]
  exact (lookup_put m x v y).symm
noncomputable def rd (K : Frag) (C : Addr) (name : Str) : Bool := plainGet K C name && hasDictIn K C && (findIn K (.ref C) name == some none)
theorem Sp.instAt {x C d : Addr} {fs : List (Str × Value)} (S : Sp w s₀ W s) (hx : (x, .inst C d) ∈ W) (hd : (d, .dict fs) ∈ W) :
    ∃ es n, s.heap.get? d = some (dictOf es n) ∧ All2 (KeyIs w.params) es fs ∧ InstAt s.heap x (instObj C d) C (some (dictOf es n)) := by
  obtain ⟨es, n, e, a⟩ := S.dict hd
  exact ⟨es, n, e, a, S.inst hx, rfl, rfl, e⟩
theorem handed_er {v v' : Value} (h : er v' = v) (hh : handedIn v = true) : handedIn v' = true := by
  cases v' <;> first | rfl | (subst h; exact hh)
theorem getA {x C d : Addr} {fs : List (Str × Value)} {name : Str} {v : Value} {expr : Bool} {Q : Value → Shared → Prop} (S : Sp w s₀ W s) (hx : (x, .inst C d) ∈ W) (hd : (d, .dict fs) ∈ W) (hf : fs.lookup name = some v)
    (hc : rd (K w.params) C name = true) (h : ∀ v' s', er v' = v → Sp w s₀ W s' → Q v' s') (hh : handedIn v = true := by rfl) : wpAny (model pg w) A (getAttr (.ref x) name expr) Q E s := by
  obtain ⟨es, n, e, a, I⟩ := S.instAt hx hd
  obtain ⟨v', g, ev⟩ := getL_of a hf
  simp only [rd, Bool.and_eq_true, beq_iff_eq] at hc
  have F : Fr s.heap s.heap.objs.size (s.heap.push { cls := .none, data := .dict #[] }) (fun _ => none) := ⟨⟨_, #[], _, Heap.get?_push_size _ rfl, rfl, by intro e he; simp at he, fun _ => rfl⟩, fun b o q => Heap.get?_push_of_some _ q, Nat.le_refl _⟩
  have lk : findObj (K w.params) C (some (dictOf es n)) name = some (.value v') := by
    obtain ⟨⟨c1, c2⟩, c3⟩ := hc
    obtain ⟨cd, k1, k2⟩ := any_some c2
    unfold findObj
    rw [k1, c3]
    simp only [Option.bind_some]
    unfold PySem.W.ownOf
    rw [k2, if_pos rfl]
    show (lookIn name (dictOf es n)).bind _ = _
    rw [lookIn_dict, g]
    rfl
  exact get_value S.K I (plainGet_of hc.1.1).1 lk (handed_er ev hh) (h _ _ ev (S.toks _))
theorem getAr {x C d a : Addr} {fs : List (Str × Value)} {name : Str} {expr : Bool} {Q : Value → Shared → Prop} (S : Sp w s₀ W s) (hx : (x, .inst C d) ∈ W) (hd : (d, .dict fs) ∈ W) (hf : fs.lookup name = some (.ref a))
    (hc : rd (K w.params) C name = true) (h : ∀ s', Sp w s₀ W s' → Q (.ref a) s') : wpAny (model pg w) A (getAttr (.ref x) name expr) Q E s :=
  getA S hx hd hf hc fun v s e S => by obtain rfl := er_ref e; exact h s S
noncomputable def wr (K : Frag) (C : Addr) (name : Str) : Bool := plainOver K C && (takerIn K C name == some none) && (clsIn K C).any (·.hasDict) && (findIn K (.ref C) "__setattr__" == some (some (.builtin "object.__setattr__")))
theorem setA {x C d : Addr} {fs : List (Str × Value)} {name : Str} {v : Value} {Q : Unit → Shared → Prop} (S : Sp w s₀ W s) (hx : (x, .inst C d) ∈ W) (U : Upd W d (.dict fs) (.dict (put fs name (er v))) W')
    (hc : wr (K w.params) C name = true) (h : ∀ s', Sp w s₀ W' s' → Q () s') (hz : Nat.ble fs.length 900 = true := by rfl) : wpAny (model pg w) A (setAttr (.ref x) name v) Q E s := by
  obtain ⟨es, n, D, a, I⟩ := S.instAt hx U.mem
  simp only [wr, Bool.and_eq_true, beq_iff_eq] at hc
  obtain ⟨⟨⟨c1, c2⟩, c3⟩, c5⟩ := hc
  obtain ⟨cd, hcd, hd'⟩ := any_some c3
  unfold setAttr callSpecial? specialOf
  refine wpAny_bind (wpAny_mkText ?_)
  have SF := PySem.F.store_object
  refine wpAny_bind (wpAny_bind (wpAny_bind (I.type.at ((looks_findIn S.K c5).at (wpAny_holding ?_)))))
  rw [SF.slot.bind]
  refine wpAny_bind (wpAny_pure (wpAny_bind (wpAny_call ?_)))
  have S1 := S.toks (s.toks + 1)
  refine osa_open S1.K I c1 c2 fun b => ?_
  refine wpAny_bind (wpAny_pure (wpAny_bind (wpAny_bind (wpAny_loadPart I.at_ (wpAny_bind ((looks_clsIn S.K hcd).at ?_))))))
  rw [hd']
  refine wpAny_pure (a := some d) (wpAny_bind (wpAny_pure (wpAny_bind ?_)))
  unfold nsSet
  refine wpAny_bind (wpAny_bind (wpAny_askSetting (wpAny_pure (wpAny_bind (wpAny_mkText (wpAny_bind (wpAny_loadPart D ?_)))))))
  dsimp only [dictOf]
  have c : ((!es.toArray.any (·.key.isStr name)) && es.toArray.any (·.refKey)) = false := by
    rw [List.any_toArray (l := es) (p := (·.refKey)), all2_norefs a, Bool.and_false]
  rw [aRefKeyMayBeTheName_at, c]
  refine wpAny_updatePart D ?_
  obtain ⟨es', n', e1, a', l'⟩ := putName_of a n name (s.toks + 1) v
  have hL := a.length
  have D' : (s.heap.update d (Obj.putName name (PyData.keyHash w.params name) (.str name (s.toks + 1)) v)).get? d = some (dictOf es' n') := by
    have := Heap.get?_update_self (Obj.putName name (PyData.keyHash w.params name) (.str name (s.toks + 1)) v) D (by rw [e1]; rfl)
    rw [e1] at this; exact this
  refine wpAny_bind (wpAny_lookBehind D' (pastItsLine_dict (by rw [List.size_toArray, sizeLine_eq]; have := Nat.le_of_ble_eq_true hz; lia)) ?_)
  refine wpAny_pure ?_
  refine wpAny_pure (wpAny_pure ?_)
  exact h _ (S.change' U (Heap.SameBut.update _ _ _) D' ⟨es', n', rfl, a'⟩)
end
end Mine
end
section
open PySem PySem.W PySem.Calls PyProof.Rows
set_option maxRecDepth 100000
namespace Mine
section
variable {w : World} {s₀ s : Shared} {W W' T : Led} {A : Around} {E : Value → Shared → Prop} {env : Env}
noncomputable def mth (K : Frag) (C : Addr) (name : Str) (f : Addr) : Bool := plainGet K C name && (findIn K (.ref C) name == some (some (.ref f))) && isFn K (.ref f)
theorem mtI {x C d f : Addr} {fs : List (Str × Value)} {name : Str} {pl : Sem Bool} {Q : Value × List Value → Shared → Prop} (S : Sp w s₀ W s) (hx : (x, .inst C d) ∈ W) (hd : (d, .dict fs) ∈ W) (hn : fs.lookup name = none)
    (hc : mth (K w.params) C name f = true) (h : Q (.ref f, [.ref x]) s) : wpAny (model pg w) A (getMethod (.ref x) name pl) Q E s := by
  obtain ⟨es, n, D, a, I⟩ := S.instAt hx hd
  simp only [mth, Bool.and_eq_true, beq_iff_eq] at hc
  obtain ⟨⟨c1, c2⟩, c3⟩ := hc
  exact method_fn S.K I (plainGet_of c1).1 (plainGet_of c1).2 c2 (beq_iff_eq.mp c3) (by show (lookIn name (dictOf es n)).map _ = _; rw [lookIn_dict, getL_none a hn]; rfl) h
theorem callM {o : Expr} {name : Str} {apos pos : Pos} {args : List Expr} {pl : Sem Bool} {Q : Value → Shared → Prop}
    (h : wpAny (model pg w) A (eval o env) (fun ov s₁ => wpAny (model pg w) A (getMethod ov name pl) (fun fx s₂ => wpAny (model pg w) A (callWith pos fx.1 fx.2 (backTo pos (starEach args env)) []) Q E s₂) E s₁) E s)
    (he : eval (.Call (.Attribute o name apos) args [] pos) env = (do
      let ov ← eval o env
      standAt apos.atName
      let (f, first) ← holding [ov] (getMethod ov name pl)
      callWith pos f first (backTo pos (starEach args env)) (backToKw pos (keywordEach [] env))) := by rfl) :
    wpAny (model pg w) A (eval (.Call (.Attribute o name apos) args [] pos) env) Q E s := methodCall_KW (kws := []) h he
theorem callN {x : Str} {px pos : Pos} {args : List Expr} {Q : Value → Shared → Prop}
    (h : wpAny (model pg w) A (eval (.Name x px) env) (fun f s₁ => wpAny (model pg w) A (callWith pos f [] (backTo pos (starEach args env)) []) Q E s₁) E s) :
    wpAny (model pg w) A (eval (.Call (.Name x px) args [] pos) env) Q E s := wpAny_bind h
theorem callNk {x : Str} {px pos : Pos} {args : List Expr} {kws : List Keyword} {Q : Value → Shared → Prop}
    (h : wpAny (model pg w) A (eval (.Name x px) env) (fun f s₁ => wpAny (model pg w) A (callWith pos f [] (backTo pos (starEach args env)) (backToKw pos (keywordEach kws env))) Q E s₁) E s) :
    wpAny (model pg w) A (eval (.Call (.Name x px) args kws pos) env) Q E s := wpAny_bind h
theorem args0 {pos : Pos} {f : Value} {first : List Value} {Q : Value → Shared → Prop} (S : Sp w s₀ W s) (hk : keepIn (K w.params) f = true) (h : wpAny (model pg w) A (call f (first ++ [])) Q E s) :
    wpAny (model pg w) A (callWith pos f first (backTo pos (starEach [] env)) []) Q E s := callWith_K0 S.K hk h
structure ArgZ (w : World) (s₀ : Shared) (A : Around) (f : Value) (vs : List Value) (Q : Value → Shared → Prop) (E : Value → Shared → Prop) (s : Shared) : Prop where
  l : ∃ W', Sp w s₀ W' s
  r : wpAny (model pg w) A (call f vs) Q E s
theorem nst_tl {a : Expr} {l : List Expr} (h : true = List.all (a :: l) kdsPlain) : true = List.all l kdsPlain := (Bool.and_eq_true_iff.mp h.symm).2.symm
theorem nst_eq {a : Expr} {l : List Expr} (h : true = List.all (a :: l) kdsPlain) : starEach (a :: l) env = (false, eval a env) :: starEach l env := by
  rw [kds_star (a :: l) h.symm, arm_evalEach_cons, List.map_cons, kds_star l (nst_tl h).symm]
theorem nst_any {pos : Pos} : ∀ {l : List Expr}, true = List.all l kdsPlain → (backTo pos (starEach l env)).any (·.1) = false
  | [], _ => rfl
  | a :: l, h => by
    rw [nst_eq h]
    show (backTo pos (starEach l env)).any (·.1) = false
    exact nst_any (nst_tl h)
theorem argsN {pos : Pos} {f : Value} {first : List Value} {e : Expr} {rest : List Expr} {Q : Value → Shared → Prop} (S : Sp w s₀ W s) (hk : keepIn (K w.params) f = true)
    (h : wpAny (model pg w) A (spliced (backTo pos (starEach (e :: rest) env))) (fun vs s₁ => ArgZ w s₀ A f (first ++ vs) Q E s₁) E s)
    (hp : true = List.all (e :: rest) kdsPlain := by rfl) :
    wpAny (model pg w) A (callWith pos f first (backTo pos (starEach (e :: rest) env)) []) Q E s :=
  callWith_K S.K hk (wpAny_mono h (fun _ _ z => ⟨z.l.elim fun _ S' => S'.K, z.r⟩) fun _ _ z => z) (nst_eq hp) (nst_any (nst_tl hp))
noncomputable def retv : Flow → Value
  | .ret v => v
  | _ => .none
theorem defC {R : Result → Shared → Prop} {name qual : Str} {params : Arguments} {body : List Stmt} {scope : Scope} {dV kV doc pm cdv ct oc : Value} {an od : Option Addr} {osl : Array (Option Value)} {f : Addr} {args : Args} {binds : List (Str × Value)}
    (S : Sp w s₀ W s) (hA : A.depth < recursionLimit) (ho : (K w.params).lookup f = some ⟨oc, od, .func (fnOf name qual params body scope dV kV doc pm an cdv ct), osl⟩)
    (hcd : codeIn (K w.params) cdv qual = true) (hbind : BindsTo s (fnOf name qual params body scope dV kV doc pm an cdv ct) args binds)
    (h : ∀ L s', Sp w s₀ ((L, .ns binds.reverse) :: W) s' → wpAny (model pg w) (A.deeper (envOf qual scope L f cdv)) (execs body (envOf qual scope L f cdv))
        (fun fl s'' => R (.ok (.ret (retv fl))) s'')
        (fun e s'' => wpAny (model pg w) (A.deeper (envOf qual scope L f cdv)) (leaving (envOf qual scope L f cdv) e) (fun _ s₃ => R (.error e) s₃) (fun e' s₃ => R (.error e') s₃) s'') s')
    (hloc : (binds.all fun y => decide (scope.names.lookup y.1 = some .local)) = true := by rfl) (hcell : (scope.names.all fun y => !(y.2 == .cell)) = true := by rfl)
    (hco : scope.isCoroutine = false := by rfl) (hgen : scope.isGenerator = false := by rfl) (hk : scope.kind = .function := by rfl) :
    codeAny (model pg w) A (.call (.ref f) args) R s := by
  refine codeAny_call_def (fd := fnOf name qual params body scope dV kV doc pm an cdv ct) (body := body) (binds := binds) hA (S.K _ _ ho) rfl S.nolimit (codeRec_of S.K hcd) rfl hbind
    (fun x hx q => by have := List.all_eq_true.mp hcell x hx; rw [q] at this; cases this) (locs hloc) (fun h₁ hns hk₁ => ?_) hco hgen hk
  obtain ⟨o, es, ep, e1, e2, e3, e4⟩ := hns
  exact h _ _ (S.add (t := s.toks + binds.length) hk₁ e1 ⟨es, ep, e2, e3, e4⟩ (Nat.le_refl _))
theorem callD {Q : Value → Shared → Prop} {name qual : Str} {params : Arguments} {body : List Stmt} {scope : Scope} {dV kV doc pm cdv ct oc : Value} {an od : Option Addr} {osl : Array (Option Value)} {f : Addr} {args : List Value} {binds : List (Str × Value)}
    (S : Sp w s₀ W s) (hA : A.depth < recursionLimit) (ho : (K w.params).lookup f = some ⟨oc, od, .func (fnOf name qual params body scope dV kV doc pm an cdv ct), osl⟩)
    (hcd : codeIn (K w.params) cdv qual = true) (hbind : BindsTo s (fnOf name qual params body scope dV kV doc pm an cdv ct) ⟨args, []⟩ binds)
    (h : ∀ L s', Sp w s₀ ((L, .ns binds.reverse) :: W) s' → wpAny (model pg w) (A.deeper (envOf qual scope L f cdv)) (execs body (envOf qual scope L f cdv)) (fun fl s'' => Q (retv fl) s'') (fun _ _ => False) s')
    (hloc : (binds.all fun y => decide (scope.names.lookup y.1 = some .local)) = true := by rfl) (hcell : (scope.names.all fun y => !(y.2 == .cell)) = true := by rfl)
    (hco : scope.isCoroutine = false := by rfl) (hgen : scope.isGenerator = false := by rfl) (hk : scope.kind = .function := by rfl) :
    wpAny (model pg w) A (call (.ref f) args) Q E s :=
  wpAny_call (defC S hA ho hcd hbind (fun L s' S' => wpAny_mono (h L s' S') (fun _ _ z => z) fun _ _ z => z.elim) hloc hcell hco hgen hk)
theorem Sp.inn {X R : Led} {p : Addr × SO} (S : Sp w s₀ (p :: (X ++ R)) s) : Sp w s₀ (X ++ (p :: R)) s := S.perm List.perm_middle.symm
theorem Sp.out1 {X R : Led} {p : Addr × SO} (S : Sp w s₀ (X ++ (p :: R)) s) : Sp w s₀ (X ++ R) s := S.sub ((List.sublist_cons_self p R).append_left X)
theorem Sp.swap {X R : Led} {p q : Addr × SO} (S : Sp w s₀ (X ++ (p :: q :: R)) s) : Sp w s₀ (X ++ (q :: p :: R)) s := S.perm ((List.Perm.swap q p R).append_left X)
theorem callS {X R : Led} (m : List (Str × Value)) {Q : Value → Shared → Prop} {name qual : Str} {params : Arguments} {body : List Stmt} {scope : Scope} {dV kV doc pm cdv ct oc : Value} {an od : Option Addr} {osl : Array (Option Value)} {f : Addr} {args : List Value}
    (S : Sp w s₀ (X ++ R) s) (hA : A.depth < recursionLimit) (ho : (K w.params).lookup f = some ⟨oc, od, .func (fnOf name qual params body scope dV kV doc pm an cdv ct), osl⟩)
    (hcd : codeIn (K w.params) cdv qual = true) (hbind : BindsTo s (fnOf name qual params body scope dV kV doc pm an cdv ct) ⟨args, []⟩ m.reverse)
    (h : ∀ L s', Sp w s₀ (X ++ ((L, .ns m) :: R)) s' → wpAny (model pg w) (A.deeper (envOf qual scope L f cdv)) (execs body (envOf qual scope L f cdv)) (fun fl s'' => Q (retv fl) s'') (fun _ _ => False) s')
    (hloc : (m.reverse.all fun y => decide (scope.names.lookup y.1 = some .local)) = true := by rfl) (hcell : (scope.names.all fun y => !(y.2 == .cell)) = true := by rfl)
    (hco : scope.isCoroutine = false := by rfl) (hgen : scope.isGenerator = false := by rfl) (hk : scope.kind = .function := by rfl) :
    wpAny (model pg w) A (call (.ref f) args) Q E s :=
  callD S hA ho hcd hbind (fun L s' S' => h L s' (by rw [List.reverse_reverse] at S'; exact S'.inn)) hloc hcell hco hgen hk
theorem callS0 (m : List (Str × Value)) {Q : Value → Shared → Prop} {name qual : Str} {params : Arguments} {body : List Stmt} {scope : Scope} {dV kV doc pm cdv ct oc : Value} {an od : Option Addr} {osl : Array (Option Value)} {f : Addr} {args : List Value}
    (S : Sp w s₀ W s) (hA : A.depth < recursionLimit) (ho : (K w.params).lookup f = some ⟨oc, od, .func (fnOf name qual params body scope dV kV doc pm an cdv ct), osl⟩)
    (hcd : codeIn (K w.params) cdv qual = true) (hbind : BindsTo s (fnOf name qual params body scope dV kV doc pm an cdv ct) ⟨args, []⟩ m.reverse)
    (h : ∀ L s', Sp w s₀ ((L, .ns m) :: W) s' → wpAny (model pg w) (A.deeper (envOf qual scope L f cdv)) (execs body (envOf qual scope L f cdv)) (fun fl s'' => Q (retv fl) s'') (fun _ _ => False) s')
    (hloc : (m.reverse.all fun y => decide (scope.names.lookup y.1 = some .local)) = true := by rfl) (hcell : (scope.names.all fun y => !(y.2 == .cell)) = true := by rfl)
    (hco : scope.isCoroutine = false := by rfl) (hgen : scope.isGenerator = false := by rfl) (hk : scope.kind = .function := by rfl) :
    wpAny (model pg w) A (call (.ref f) args) Q E s :=
  callD S hA ho hcd hbind (fun L s' S' => h L s' (by rw [List.reverse_reverse] at S'; exact S')) hloc hcell hco hgen hk
theorem mkC {C fI : Addr} {args : List Value} {kw : List (Str × Value)} {Q : Value → Shared → Prop} (S : Sp w s₀ W s) (hm : makesIn (K w.params) C = true) (hi : findIn (K w.params) (.ref C) "__init__" = some (some (.ref fI))) (hf : typeIn (K w.params) (.ref fI) = some (.type "function"))
    (h : ∀ x d s', Sp w s₀ ((x, .inst C d) :: (d, .dict []) :: W) s' → codeAny (model pg w) (A.under (.builtin "type.__call__" ⟨.ref C :: args, kw⟩)) (.call (.ref fI) ⟨.ref x :: args, kw⟩) (fun r s'' => r = .ok (.ret .none) ∧ Q (.ref x) s'') s') :
    wpAny (model pg w) A (call (.ref C) args kw) Q E s := by
  obtain ⟨hh, g, d, t, os⟩ := s
  refine wpAny_call (make_core (makes_of S.K hm) (looks_findIn S.K hi) (fun self => bind_fn S.K self hf) (.inl rfl) ?_)
  have S1 : Sp w s₀ ((hh.objs.size, .dict []) :: W) ⟨hh.push emptyDict, g, d, t, os⟩ := S.push (o := emptyDict) (x := .dict []) ⟨[], 0, rfl, trivial⟩
  have S2 := S1.push (t := t) (o := instObj C hh.objs.size) (x := .inst C hh.objs.size) rfl
  simp only [Heap.size_push] at S2
  refine codeAny_mono (h _ _ _ S2) fun r s' z => ?_
  obtain ⟨rfl, z⟩ := z
  exact ⟨rfl, z⟩
end
end Mine
end
section
open PySem PySem.W PySem.Calls PyProof.Rows
set_option maxRecDepth 100000
namespace Mine
noncomputable abbrev k (s : String) : Str := Str.ofString s
noncomputable abbrev vi (i : Int) : Value := .int i 0
section
variable {w : World} {s₀ s : Shared} {W W' T : Led} {A : Around} {E : Value → Shared → Prop} {env : Env}
theorem Sp.isList {l : Addr} {xs : List Value} (S : Sp w s₀ W s) (h : (l, .list xs) ∈ W) : ∃ vs : List Value, s.heap.IsList l vs.toArray ∧ vs.map er = xs :=
  let ⟨vs, n, e, q⟩ := S.list h; ⟨vs, ⟨_, e, rfl, n, rfl⟩, q⟩
theorem fit {n : Nat} (h : n ≤ 1000) : n ≤ sizeLine := by rw [sizeLine_eq]; lia
theorem mtLs {l : Addr} {xs : List Value} {name : Str} {id : String} {pl : Sem Bool} {Q : Value × List Value → Shared → Prop} (S : Sp w s₀ W s) (hl : (l, .list xs) ∈ W) (slot : Slot "list" name id)
    (hty : typeOf (.builtin id) = pure (.type "method_descriptor")) (h : Q (.builtin id, [.ref l]) s) : wpAny (model pg w) A (getMethod (.ref l) name pl) Q E s := by
  obtain ⟨vs, n, e, _⟩ := S.list hl
  exact getMethod_builtin ⟨_, e, rfl⟩ PySem.F.plainAttrs_list slot hty (fun a q => by cases q; exact ⟨_, e, rfl⟩) h
theorem mtAppend {l : Addr} {xs : List Value} {pl : Sem Bool} {Q : Value × List Value → Shared → Prop} (S : Sp w s₀ W s) (hl : (l, .list xs) ∈ W) (h : Q (.builtin "list.append", [.ref l]) s) :
    wpAny (model pg w) A (getMethod (.ref l) (k "append") pl) Q E s := mtLs S hl F.slot_list_append F.type_list_append h
theorem mtExtend {l : Addr} {xs : List Value} {pl : Sem Bool} {Q : Value × List Value → Shared → Prop} (S : Sp w s₀ W s) (hl : (l, .list xs) ∈ W) (h : Q (.builtin "list.extend", [.ref l]) s) :
    wpAny (model pg w) A (getMethod (.ref l) (k "extend") pl) Q E s := mtLs S hl F.slot_list_extend F.type_list_extend h
theorem mtPop {l : Addr} {xs : List Value} {pl : Sem Bool} {Q : Value × List Value → Shared → Prop} (S : Sp w s₀ W s) (hl : (l, .list xs) ∈ W) (h : Q (.builtin "list.pop", [.ref l]) s) :
    wpAny (model pg w) A (getMethod (.ref l) (k "pop") pl) Q E s := mtLs S hl F.slot_list_pop F.type_list_pop h
theorem mtCount {l : Addr} {xs : List Value} {pl : Sem Bool} {Q : Value × List Value → Shared → Prop} (S : Sp w s₀ W s) (hl : (l, .list xs) ∈ W) (h : Q (.builtin "list.count", [.ref l]) s) :
    wpAny (model pg w) A (getMethod (.ref l) (k "count") pl) Q E s := mtLs S hl F.slot_list_count F.type_list_count h
theorem Sp.chList {l : Addr} {xs ys : List Value} {vs : List Value} {n : Nat} {f : Array Value → Array Value} {t : Tok} (S : Sp w s₀ W s) (U : Upd W l (.list xs) (.list ys) W') (e : s.heap.get? l = some (listOf vs.toArray n))
    (hf : ∃ us : List Value, f vs.toArray = us.toArray ∧ us.map er = ys) : Sp w s₀ W' { s with heap := s.heap.update l (Obj.mapSeq f), toks := t } := by
  obtain ⟨us, h1, h2⟩ := hf
  have := Heap.get?_update_self (Obj.mapSeq f) e rfl
  have e2 : Obj.mapSeq f (listOf vs.toArray n) = listOf us.toArray (if us.toArray.size == vs.toArray.size then n else n + 1) := by
    show listOf (f vs.toArray) (if (f vs.toArray).size == vs.toArray.size then n else n + 1) = _
    rw [h1]
  exact S.change' U (Heap.SameBut.update _ _ _) this ⟨us, _, e2, h2⟩
theorem appendM {pos : Pos} {l : Addr} {e : Expr} {Q : Value → Shared → Prop} (_S : Sp w s₀ W s)
    (h : wpAny (model pg w) A (eval e env) (fun v s₁ => ∃ W₁ W₂ xs, Sp w s₀ W₁ s₁ ∧ Upd W₁ l (.list xs) (.list (xs ++ [er v])) W₂ ∧ xs.length ≤ 1000 ∧ ∀ s₂, Sp w s₀ W₂ s₂ → Q .none s₂) E s)
    (he : backTo pos (starEach [e] env) = [(false, eval e env)] := by rfl) :
    wpAny (model pg w) A (callWith pos (.builtin "list.append") [.ref l] (backTo pos (starEach [e] env)) []) Q E s := by
  rw [he]
  refine PySem.P.append_list (wpAny_mono h (fun v s₁ z => ?_) fun _ _ z => z)
  obtain ⟨W₁, W₂, xs, S, U, hz, z⟩ := z
  obtain ⟨vs, n, e1, e2⟩ := S.list U.mem
  refine ⟨vs.toArray, n, by rw [List.size_toArray]; exact fit (by rw [← List.length_map er, e2]; exact hz), e1, z _ (S.chList U e1 ⟨vs ++ [v], by simp, by simp [e2]⟩)⟩
theorem listTooLong_small {n : Nat} (h : n ≤ 4000) : Builtin.List.listTooLong n = false := by
  unfold Builtin.List.listTooLong
  simp only [sizeLine_eq] at *
  first | (apply decide_eq_false; lia) | (rw [decide_eq_false_iff_not]; lia) | (simp; lia)
theorem extendM {pos : Pos} {l : Addr} {e : Expr} {Q : Value → Shared → Prop} (_S : Sp w s₀ W s)
    (h : wpAny (model pg w) A (eval e env) (fun v s₁ => ∃ W₁ W₂ xs b ys, v = .ref b ∧ Sp w s₀ W₁ s₁ ∧ (b, .list ys) ∈ W₁ ∧ Upd W₁ l (.list xs) (.list (xs ++ ys)) W₂ ∧ xs.length ≤ 1000 ∧ ys.length ≤ 1000 ∧ ∀ s₂, Sp w s₀ W₂ s₂ → Q .none s₂) E s)
    (he : backTo pos (starEach [e] env) = [(false, eval e env)] := by rfl) :
    wpAny (model pg w) A (callWith pos (.builtin "list.extend") [.ref l] (backTo pos (starEach [e] env)) []) Q E s := by
  rw [he]
  refine PySem.P.extend_list (wpAny_mono h (fun v s₁ z => ?_) fun _ _ z => z)
  obtain ⟨W₁, W₂, xs, b, ys, rfl, S, hb, U, hz, hz2, z⟩ := z
  obtain ⟨vs, n, e1, e2⟩ := S.list U.mem
  obtain ⟨us, n2, e3, e4⟩ := S.list hb
  have l1 : vs.length ≤ 1000 := by rw [← List.length_map er, e2]; exact hz
  have l2 : us.length ≤ 1000 := by rw [← List.length_map er, e4]; exact hz2
  refine ⟨b, vs.toArray, us.toArray, n, n2, fit (by simpa using l1), by simp only [List.size_toArray, sizeLine_eq]; lia, ?_, rfl, e1, e3, z _ (S.chList U e1 ⟨vs ++ us, by simp, by simp [e2, e4]⟩)⟩
  rw [listTooLong_small (by simp only [List.size_toArray]; lia), Bool.and_false]
  exact Bool.false_ne_true
theorem popM {pos : Pos} {l : Addr} {xs : List Value} {x : Value} {Q : Value → Shared → Prop} (S : Sp w s₀ W s) (U : Upd W l (.list (xs ++ [x])) (.list xs) W') (hz : xs.length ≤ 900)
    (h : ∀ v s₁, er v = x → Sp w s₀ W' s₁ → Q v s₁) :
    wpAny (model pg w) A (callWith pos (.builtin "list.pop") [.ref l] (backTo pos (starEach [] env)) []) Q E s := by
  obtain ⟨vs, n, e1, e2⟩ := S.list U.mem
  obtain ⟨us, v, rfl⟩ : ∃ us v, vs = us ++ [v] := by
    rcases List.eq_nil_or_concat vs with rfl | ⟨us, v, rfl⟩
    · simp at e2
    · exact ⟨us, v, by simp⟩
  rw [List.map_append, List.map_cons, List.map_nil] at e2
  obtain ⟨e3, e4⟩ := List.append_inj' e2 rfl
  have hu : us.length ≤ 900 := by rw [← List.length_map er, e3]; exact hz
  refine PySem.P.pop_list e1 (y := v) (by simp) (h _ _ (by simpa using e4) (S.chList U e1 ⟨us, ?_, e3⟩)) (fit (by simp; lia))
  simp [Array.eraseIdxIfInBounds, List.eraseIdx_append_of_length_le]
theorem popIM {pos : Pos} {l : Addr} {e : Expr} {Q : Value → Shared → Prop} (_S : Sp w s₀ W s)
    (h : wpAny (model pg w) A (eval e env) (fun v s₁ => ∃ W₁ W₂ x xs t, v = .int 0 t ∧ Sp w s₀ W₁ s₁ ∧ Upd W₁ l (.list (x :: xs)) (.list xs) W₂ ∧ xs.length ≤ 900 ∧ ∀ u s₂, er u = x → Sp w s₀ W₂ s₂ → Q u s₂) E s)
    (he : backTo pos (starEach [e] env) = [(false, eval e env)] := by rfl) :
    wpAny (model pg w) A (callWith pos (.builtin "list.pop") [.ref l] (backTo pos (starEach [e] env)) []) Q E s := by
  rw [he]
  refine PySem.P.pop_at_list (wpAny_mono h (fun v s₁ z => ?_) fun _ _ z => z)
  obtain ⟨W₁, W₂, x, xs, t, rfl, S, U, hz, z⟩ := z
  obtain ⟨vs, n, e1, e2⟩ := S.list U.mem
  cases vs with
  | nil => cases e2
  | cons u us =>
    rw [List.map_cons] at e2
    obtain ⟨e3, e4⟩ := List.cons.inj e2
    have hu : us.length ≤ 900 := by rw [← List.length_map er, e4]; exact hz
    refine ⟨(u :: us).toArray, n, 0, t, 0, u, fit (by simp; lia), rfl, e1, by decide +kernel, by simp [seqIndex?], by simp, z _ _ e3 (S.chList U e1 ⟨us, ?_, e4⟩)⟩
    simp [Array.eraseIdxIfInBounds]
end
end Mine
end
section
open PySem PySem.W PySem.Calls PyProof.Rows
set_option maxRecDepth 100000
namespace Mine
structure Ad where
  (cup scr thl ctr cd plc emp hp hpd lim limd t0 t0d t0w t1 t1d t1w t1i a1 a1d a1w a2 a2d a2w : Addr)
structure Rf where
  (r rd : Addr)
  (j : Bool)
noncomputable abbrev Sx := { x : Str // PyData.strOk x = true }
inductive DV where
  | none
  | int (i : Int)
  | str (x : Sx)
  | rf (f : Rf)
noncomputable def DV.val : DV → Value
  | .none => .none
  | .int i => vi i
  | .str x => .str x.1 0
  | .rf f => .ref f.r
structure Sc where
  (a d wl wk : Addr)
  (num cnt : Int)
  (freed : Bool)
  (val : DV)
structure It where
  (i : Nat)
  (a : Addr)
noncomputable def itV : Option It → Value
  | .none => .none
  | .some t => .ref t.a
structure Dm where
  A : Ad
  script : List Int
  rolled : Int
  last : Int
  zp : Addr
  zero : List It
  c0 : Int
  c1 : Int
  i1p : Addr
  i1 : List (Option It)
  i2p : Addr
  i2 : List (Option It)
  refs : List Rf
  scs : List Sc
noncomputable def scF (num cnt : Int) (wk : Addr) (freed : Bool) (val : Value) : List (Str × Value) :=
  [(k "number", vi num), (k "count", vi cnt), (k "blessed", .none), (k "weak", .ref wk), (k "is_destroyed", .bool false), (k "is_freed", .bool freed), (k "value", val), (k "magic", .none)]
noncomputable def arF (num cnt : Int) (wk ip : Addr) : List (Str × Value) :=
  [(k "number", vi num), (k "count", vi cnt), (k "blessed", .none), (k "weak", .ref wk), (k "is_destroyed", .bool false), (k "is_freed", .bool false), (k "items", .ref ip), (k "tied", .none)]
noncomputable def Sc.objs (c : Sc) : Led := [(c.a, .inst 59 c.d), (c.d, .dict (scF c.num c.cnt c.wk c.freed c.val.val)), (c.wl, .list [])]
noncomputable def Ad.tg (A : Ad) (j : Bool) : Addr := if j then A.t1 else A.t0
noncomputable def Rf.objs (A : Ad) (f : Rf) : Led := [(f.r, .inst 155 f.rd), (f.rd, .dict [(k "target", .ref (A.tg f.j)), (k "is_weak", .bool false)])]
noncomputable def fixed (σ : Dm) : Led := [
  (σ.A.cup, .dict [(k "script", .ref σ.A.scr), (k "rolled", vi σ.rolled), (k "counter", .ref σ.A.ctr), (k "things", .ref σ.A.thl), (k "one", .ref σ.A.a1), (k "other", .ref σ.A.a2)]),
  (σ.A.scr, .list (σ.script.map vi)),
  (σ.A.thl, .list [.ref σ.A.t0, .ref σ.A.t1]),
  (σ.A.ctr, .inst 551 σ.A.cd),
  (σ.A.cd, .dict [(k "heap", .ref σ.A.hp), (k "destroy", .none), (k "places", .ref σ.A.plc), (k "empties", .ref σ.A.emp)]),
  (σ.A.plc, .dict []),
  (σ.A.emp, .dict []),
  (σ.A.hp, .inst 218 σ.A.hpd),
  (σ.A.hpd, .dict [(k "limits", .ref σ.A.lim), (k "last", vi σ.last), (k "zero", .ref σ.zp)]),
  (σ.A.lim, .inst 573 σ.A.limd),
  (σ.A.limd, .dict [(k "width", vi 64), (k "depth", vi 50), (k "steps", vi 1000000), (k "text", vi 100000), (k "items", vi 7)]),
  (σ.A.t0, .inst 59 σ.A.t0d),
  (σ.A.t0d, .dict (scF 1 σ.c0 σ.A.t0w false (vi 7))),
  (σ.A.t0w, .list []),
  (σ.A.t1, .inst 78 σ.A.t1d),
  (σ.A.t1d, .dict (arF 2 σ.c1 σ.A.t1w σ.A.t1i)),
  (σ.A.t1w, .list []),
  (σ.A.t1i, .list []),
  (σ.A.a1, .inst 78 σ.A.a1d),
  (σ.A.a1d, .dict (arF 3 1 σ.A.a1w σ.i1p)),
  (σ.A.a1w, .list []),
  (σ.A.a2, .inst 78 σ.A.a2d),
  (σ.A.a2d, .dict (arF 4 1 σ.A.a2w σ.i2p)),
  (σ.A.a2w, .list []),
  (σ.zp, .list (σ.zero.map fun t => .ref t.a)),
  (σ.i1p, .list (σ.i1.map itV)),
  (σ.i2p, .list (σ.i2.map itV))]
noncomputable def DV.ok (x : DV) (σ : Dm) : Prop := match x with
  | .rf f => f ∈ σ.refs
  | _ => True
noncomputable def Dm.addc (σ : Dm) (j : Bool) (n : Int) : Dm := if j then { σ with c1 := σ.c1 + n } else { σ with c0 := σ.c0 + n }
noncomputable def Dm.take (σ : Dm) (x : DV) : Dm := match x with
  | .rf f => σ.addc f.j 1
  | _ => σ
noncomputable def Dm.cj (σ : Dm) (j : Bool) : Int := if j then σ.c1 else σ.c0
noncomputable def objs (σ : Dm) : Led := fixed σ ++ (σ.refs.flatMap (Rf.objs σ.A) ++ σ.scs.flatMap Sc.objs)
section
variable {σ : Dm} {R : Led}
theorem mF {i : Nat} {p : Addr × SO} (h : (fixed σ)[i]? = some p) : p ∈ objs σ ++ R := List.mem_append_left _ (List.mem_append_left _ (List.mem_of_getElem? h))
theorem mR {p : Addr × SO} (h : p ∈ R) : p ∈ objs σ ++ R := List.mem_append_right _ h
theorem mS {c : Sc} {p : Addr × SO} (hc : c ∈ σ.scs) (h : p ∈ c.objs) : p ∈ objs σ ++ R :=
  List.mem_append_left _ (List.mem_append_right _ (List.mem_append_right _ (List.mem_flatMap.mpr ⟨c, hc, h⟩)))
theorem mRf {f : Rf} {p : Addr × SO} (hc : f ∈ σ.refs) (h : p ∈ f.objs σ.A) : p ∈ objs σ ++ R :=
  List.mem_append_left _ (List.mem_append_right _ (List.mem_append_left _ (List.mem_flatMap.mpr ⟨f, hc, h⟩)))
theorem uF {σ' : Dm} {i : Nat} {a : Addr} {x y : SO} (h : (fixed σ)[i]? = some (a, x)) (e : fixed σ' = (fixed σ).set i (a, y)) (e1 : σ'.A = σ.A := by rfl) (e2 : σ'.refs = σ.refs := by rfl) (e3 : σ'.scs = σ.scs := by rfl) :
    Upd (objs σ ++ R) a x y (objs σ' ++ R) := by
  have U : Upd (fixed σ) a x y (fixed σ') := ⟨i, h, e⟩
  have : objs σ' = fixed σ' ++ (σ.refs.flatMap (Rf.objs σ.A) ++ σ.scs.flatMap Sc.objs) := by unfold objs; rw [e1, e2, e3]
  rw [this]
  exact U.left.left
theorem uR {R' : Led} {a : Addr} {x y : SO} (h : Upd R a x y R') : Upd (objs σ ++ R) a x y (objs σ ++ R') := h.right
theorem upd_flatMap {α : Type} {f : α → Led} {y : α} {a : Addr} {u v : SO} : ∀ {l : List α} {i : Nat} {x : α}, l[i]? = some x → Upd (f x) a u v (f y) → Upd (l.flatMap f) a u v ((l.set i y).flatMap f)
  | x :: l, 0, _, h, U => by
    cases h
    show Upd (f x ++ l.flatMap f) a u v (f y ++ l.flatMap f)
    exact U.left
  | x :: l, i + 1, z, h, U => by
    show Upd (f x ++ l.flatMap f) a u v (f x ++ (l.set i y).flatMap f)
    have h' : l[i]? = some z := by simpa using h
    exact (upd_flatMap h' U).right
theorem uS {i : Nat} {c c' : Sc} {a : Addr} {x y : SO} (h : σ.scs[i]? = some c) (U : Upd c.objs a x y c'.objs) : Upd (objs σ ++ R) a x y (objs { σ with scs := σ.scs.set i c' } ++ R) :=
  ((upd_flatMap h U).right (T := σ.refs.flatMap (Rf.objs σ.A))).right.left
end
end Mine
end
section
open PySem PySem.W PySem.Calls PyProof.Rows
set_option maxRecDepth 100000
namespace Mine
theorem Upd.mem2 {W W' : Led} {a : Addr} {x y : SO} (h : Upd W a x y W') : (a, y) ∈ W' := by
  obtain ⟨i, e, rfl⟩ := h
  exact List.mem_of_getElem? (i := i) (by rw [List.getElem?_set_self (List.getElem?_eq_some_iff.mp e).1])
section
variable {w : World} {s₀ s : Shared} {W W' R : Led} {A : Around} {E : Value → Shared → Prop} {Q : Value → Shared → Prop} {env : Env} {σ : Dm}
noncomputable def Rm (A : Around) (n : Nat) : Prop := A.depth + 3 * n < recursionLimit ∧ A.units + 20 * n < cLine ∧ A.handled = none
theorem Rm.lt {n : Nat} (h : Rm A n) : A.depth < recursionLimit := by have := h.1; lia
theorem Rm.down {n : Nat} (h : Rm A (n + 1)) (env : Env) : Rm (A.deeper env) n := ⟨by have := h.1; show A.depth + 1 + 3 * n < _; lia, by have := h.2.1; show A.units + 3 + 20 * n < _; lia, h.2.2⟩
theorem Rm.le {n m : Nat} (h : Rm A n) (hm : m ≤ n) : Rm A m := ⟨by have := h.1; lia, by have := h.2.1; lia, h.2.2⟩
theorem Rm.cl {n : Nat} (h : Rm A n) : A.units < cLine := by have := h.2.1; lia
theorem Rm.make {n : Nat} (h : Rm A (n + 1)) {C : Addr} {args : List Value} {kw : List (Str × Value)} : Rm (A.under (.builtin "type.__call__" ⟨.ref C :: args, kw⟩)) n := by
  have e1 : (Code.builtin "type.__call__" ⟨.ref C :: args, kw⟩).weight ≤ 2 := by
    exact Nat.le_of_ble_eq_true (by kernel_rfl)
  have e2 : (Code.builtin "type.__call__" ⟨.ref C :: args, kw⟩).cUnits ≤ 10 := by
    exact Nat.le_of_ble_eq_true (by kernel_rfl)
  refine ⟨?_, ?_, h.2.2⟩
  · have := h.1
    show A.depth + (Code.builtin "type.__call__" ⟨.ref C :: args, kw⟩).weight + 3 * n < _
    lia
  · have := h.2.1
    show A.units + (Code.builtin "type.__call__" ⟨.ref C :: args, kw⟩).cUnits + 20 * n < _
    lia
theorem hold_spec {x C d ctr : Addr} {n : Int} {fs : List (Str × Value)} (S : Sp w s₀ W s) (hA : Rm A 1) (hx : (x, .inst C d) ∈ W) (U : Upd W d (.dict fs) (.dict (put fs (k "count") (vi (n + 1)))) W')
    (hn : fs.lookup (k "count") = some (vi n)) (hr : rd (K w.params) C "count" = true) (hw : wr (K w.params) C "count" = true) (hz : Nat.ble fs.length 900 = true := by rfl) (h : ∀ s', Sp w s₀ W' s' → Q .none s') :
    wpAny (model pg w) A (call (.ref 480) [.ref ctr, .ref x]) Q E s := by
  refine callD (binds := [(k "self", .ref ctr), (k "thing", .ref x)]) S hA.lt rfl (by kernel_rfl) (BindsTo.of_eq rfl) (fun L s1 S1 => ?_)
  refine wpAny_execs_cons (wpAny_AugAssign_AttributeAny ?_)
  refine nmL S1 (.head _) rfl ?_
  refine getA S1 (.tail _ hx) (.tail _ U.mem) hn hr (fun v s2 ev S2 => ?_)
  obtain ⟨t, rfl⟩ := er_int ev
  refine wpAny_Constant_int (PyProof.Rows.iadd_int ?_)
  refine setA ((S2.toks _).toks _) (.tail _ hx) (Upd.tail U) hw (fun s3 S3 => ?_) hz
  exact wpAny_execs_nil (h _ (S3.sub (List.sublist_cons_self _ _)))
theorem let_go_gen (j : Nat) {x C d : Addr} {n : Int} {fs : List (Str × Value)} (S : Sp w s₀ (objs σ ++ R) s) (hA : Rm A 1) (hx : (x, .inst C d) ∈ objs σ ++ R) {σ₁ : Dm} (eA : σ₁.A = σ.A) (ez : σ₁.zp = σ.zp) (ez' : σ₁.zero = σ.zero) (hx1 : (x, .inst C d) ∈ objs σ₁ ++ R)
    (U : Upd (objs σ ++ R) d (.dict fs) (.dict (put fs (k "count") (vi (n - 1)))) (objs σ₁ ++ R)) (hl : σ.zero.length ≤ 1000)
    (hn : fs.lookup (k "count") = some (vi n)) (hr : rd (K w.params) C "count" = true) (hw : wr (K w.params) C "count" = true) (hz : Nat.ble fs.length 900 = true := by rfl)
    (h : ∀ s', Sp w s₀ (objs (if n = 1 then { σ₁ with zero := σ.zero ++ [⟨j, x⟩] } else σ₁) ++ R) s' → Q .none s') :
    wpAny (model pg w) A (call (.ref 487) [.ref σ.A.ctr, .ref x]) Q E s := by
  refine callD (binds := [(k "self", .ref σ.A.ctr), (k "thing", .ref x)]) S hA.lt rfl (by kernel_rfl) (BindsTo.of_eq rfl) (fun L s1 S1 => ?_)
  refine wpAny_execs_cons (wpAny_AugAssign_AttributeAny ?_)
  refine nmL S1 (.head _) rfl ?_
  refine getA S1 (.tail _ hx) (.tail _ U.mem) hn hr (fun v s2 ev S2 => ?_)
  obtain ⟨t, rfl⟩ := er_int ev
  refine wpAny_Constant_int (PyProof.Rows.isub_int ?_)
  refine setA ((S2.toks _).toks _) (.tail _ hx) (Upd.tail U) hw (fun s3 S3 => ?_) hz
  refine wpAny_execs_cons (wpAny_If (wpAny_isTrue_Compare1 ?_))
  refine Attribute_any_ (nmL S3 (.head _) rfl ?_)
  refine getA S3 (.tail _ hx1) (.tail _ U.mem2) (by rw [lookup_put, if_pos rfl]) hr (fun v s4 ev S4 => ?_)
  obtain ⟨t4, rfl⟩ := er_int ev
  refine wpAny_Constant_int (PyProof.Rows.eq_int (wpAny_truthy_bool ?_))
  have S5 := S4.toks (s4.toks + 1)
  by_cases hn1 : n = 1
  · subst hn1
    rw [if_pos (by rfl)]
    rw [if_pos rfl] at h
    have m3 : (σ.A.ctr, SO.inst 551 σ.A.cd) ∈ objs σ₁ ++ R := by rw [← eA]; exact mF (i := 3) rfl
    have m4 : (σ.A.cd, SO.dict [(k "heap", .ref σ.A.hp), (k "destroy", .none), (k "places", .ref σ.A.plc), (k "empties", .ref σ.A.emp)]) ∈ objs σ₁ ++ R := by rw [← eA]; exact mF (i := 4) rfl
    have m7 : (σ.A.hp, SO.inst 218 σ.A.hpd) ∈ objs σ₁ ++ R := by rw [← eA]; exact mF (i := 7) rfl
    have m8 : (σ.A.hpd, SO.dict [(k "limits", .ref σ.A.lim), (k "last", vi σ₁.last), (k "zero", .ref σ.zp)]) ∈ objs σ₁ ++ R := by rw [← eA, ← ez]; exact mF (i := 8) rfl
    have u24 : Upd (objs σ₁ ++ R) σ.zp (.list (σ.zero.map fun t => .ref t.a)) (.list (σ.zero.map (fun t => .ref t.a) ++ [.ref x])) (objs { σ₁ with zero := σ.zero ++ [⟨j, x⟩] } ++ R) := by
      rw [← ez, ← ez']; exact uF (i := 24) rfl (by show fixed _ = _; simp [fixed])
    refine wpAny_execs_cons (wpAny_Expr (callM (Attribute_any_ (Attribute_any_ (nmL S5 (.head _) rfl ?_)))))
    refine getAr S5 (.tail _ m3) (.tail _ m4) rfl (by kernel_rfl) (fun s6 S6 => ?_)
    refine getAr S6 (.tail _ m7) (.tail _ m8) rfl (by kernel_rfl) (fun s7 S7 => ?_)
    refine mtAppend S7 (.tail _ u24.mem) ?_
    refine appendM S7 (nmL S7 (.head _) rfl ?_)
    refine ⟨_, _, _, S7, .tail u24, by rw [List.length_map]; exact hl, fun s8 S8 => ?_⟩
    exact wpAny_execs_nil (wpAny_execs_nil (h _ (S8.sub (List.sublist_cons_self _ _))))
  · rw [if_neg (by simpa using fun q : n - 1 = 0 => hn1 (by lia))]
    rw [if_neg hn1] at h
    exact wpAny_execs_nil (wpAny_execs_nil (h _ (S5.sub (List.sublist_cons_self _ _))))
end
end Mine
end
section
open PySem PySem.W PySem.Calls PyProof.Rows
set_option maxRecDepth 100000
namespace Mine
section
variable {w : World} {s₀ s : Shared} {W W' R : Led} {A : Around} {E : Value → Shared → Prop} {Q : Value → Shared → Prop} {env : Env} {σ : Dm}
noncomputable def clsK (K : Frag) (D : Addr) : Bool := plainGet K D "__class__" && hasDictIn K D && (findIn K (.ref D) "__class__" == some (some (.builtin "object.__class__"))) && (specialIn K (.builtin "object.__class__") "__get__" == some (some (.builtin "getset_descriptor.__get__"))) &&
  (takesIn K (.builtin "object.__class__") == some true) && (mroIn K D (.type "object") == some true)
theorem cls_of_inst {pr : Program} {w' : World} {x D d : Addr} {fs : List (Str × Value)} {Q : Option Value → Shared → Prop} (S : Sp w s₀ W s) (hx : (x, .inst D d) ∈ W) (hd : (d, .dict fs) ∈ W) (hc : clsK (K w.params) D = true) (h : Q (some (.ref D)) { s with toks := s.toks + 1 }) :
    wpAny (model pr w') A (getAttr? (.ref x) "__class__") Q E s := by
  obtain ⟨es, n, e, a, I⟩ := S.instAt hx hd
  simp only [clsK, Bool.and_eq_true, beq_iff_eq] at hc
  obtain ⟨⟨⟨⟨⟨c1, c2⟩, c3⟩, c4⟩, c5⟩, c6⟩ := hc
  have L0 := I.type (M := model pr w')
  have L1 := looks_findIn (M := model pr w') S.K (plainGet_of c1).1
  have L2 := looks_find (M := model pr w') S.K I (findObj_data (by obtain ⟨cd, hc, _⟩ := any_some c2; rw [hc]; rfl) c3 c4 c5)
  have L3 := looks_findIn (M := model pr w') S.K (plainGet_of c1).2
  unfold getAttr? getAttrBy? getAttrBy
  refine wpAny_bind (wpAny_mkText (wpAny_bind (wpAny_attempt (wpAny_holding (wpAny_bind (L0.at (wpAny_bind (L1.at ?_))))))))
  show wpAny _ _ (getAttrEveryday _ _ _) _ _ _
  refine wpAny_bind (wpAny_onRaise (wpAny_runValue (codeAny_builtin F.plainObj_entry_getattr_hooked ?_)))
  refine wpAny_bind (wpAny_pure (wpAny_bind (L0.at (wpAny_bind (L2.at (wpAny_bind (L3.at ?_)))))))
  show wpAny _ _ (holding [_] (call _ [_, .ref x, .ref D]) >>= ret) _ _ _
  refine wpAny_bind (wpAny_holding (wpAny_call (class_get (s := { s with toks := s.toks + 1 }) (ox := instObj D d) (od := some (dictOf es n)) S.K I c6 (wpAny_pure ?_))))
  show wpAny _ _ (handedOut _) _ _ _
  rw [handedOut_of rfl]
  exact wpAny_pure (wpAny_pure h)
noncomputable def niK (K : Frag) (D C : Addr) : Bool := (clsIn K C).isSome && typeIn K (.ref C) == some (.type "type") && instIn K (.ref C) (.type "type") == some true && subIn K (.ref D) (.ref C) == some false && !(D == C)
theorem isn_inst_nested {pr : Program} {w' : World} {x D d C : Addr} {fs : List (Str × Value)} {dep : Int} {tk : Tok} {Q : Fin → Shared → Prop} (S : Sp w s₀ W s) (hx : (x, .inst D d) ∈ W) (hd : (d, .dict fs) ∈ W) (hc : clsK (K w.params) D = true) (e : niK (K w.params) D C = true)
    (h : Q (.done (.ret (.bool false))) { s with toks := s.toks + 1 }) : wpAny (model pr w') A (Builtin.«isinstance.nested» ⟨[.ref x, .ref C, .int dep tk], []⟩) Q E s := by
  obtain ⟨es, n, eD, a, I⟩ := S.instAt hx hd
  have X := S.K
  have ht := I.type (M := model pr w')
  have ca := fun (Q : Option Value → Shared → Prop) (hq : Q (some (.ref D)) { s with toks := s.toks + 1 }) => cls_of_inst (pr := pr) (w' := w') (A := A) (E := E) (Q := Q) S hx hd hc hq
  have hD : (clsIn (K w.params) D).isSome = true := by
    simp only [clsK, Bool.and_eq_true] at hc
    obtain ⟨cd, hc, _⟩ := any_some hc.1.1.1.1.2
    rw [hc]; rfl
  obtain ⟨hh, g, d', tt, os⟩ := s
  unfold Builtin.«isinstance.nested»
  refine wpAny_bind (ht.at ?_)
  unfold niK at e
  simp only [Bool.and_eq_true, Bool.not_eq_true', beq_eq_false_iff_ne] at e
  obtain ⟨⟨⟨⟨e0, e1⟩, e2⟩, e3⟩, e4⟩ := e
  rw [if_neg (fun q => by cases beq_iff_eq.mp q; exact e4 rfl)]
  have L1 := looks_typeIn (M := model pr w') X (beq_iff_eq.mp e1)
  have L2 := looks_instIn (M := model pr w') X (beq_iff_eq.mp e2)
  have L4 : Looks (model pr w') hh (isSubtype (.ref D) (.ref C)) false := looks_subIn X (beq_iff_eq.mp e3)
  have L3 : Looks (model pr w') hh (isInstance (.ref x) (.ref C)) false := ht.andThen L4
  refine wpAny_bind (L1.at ?_)
  rw [if_pos (by decide)]
  k_delta "plainIsInstance"
  unfold isType
  repeat lk
  unfold clsIn at e0
  split at e0
  · rename_i ho
    refine nd_load (X _ _ ho) (nd_pure (wpAny_pure ?_))
    simp only [Bool.not_true, Bool.false_eq_true, if_false]
    refine wpAny_bind (L3.at ?_)
    simp only [Bool.false_eq_true, if_false]
    refine wpAny_bind (ca _ ?_)
    unfold clsIn at hD
    split at hD
    rotate_left
    · cases hD
    rename_i ho2
    refine wpAny_bind ?_
    repeat lk
    refine nd_load (X _ _ ho2) (nd_pure (wpAny_pure ?_))
    simp only [Bool.not_true, Bool.false_eq_true, if_false]
    refine wpAny_bind (wpAny_rule ?_)
    refine L4.at ?_
    exact wpAny_pure h
  · cases e0
theorem isFalse {x D d C : Addr} {fs : List (Str × Value)} (S : Sp w s₀ W s) (hx : (x, .inst D d) ∈ W) (hd : (d, .dict fs) ∈ W) (hc : clsK (K w.params) D = true) (e : niK (K w.params) D C = true) (h : ∀ s', Sp w s₀ W s' → Q (.bool false) s') :
    wpAny (model pg w) A (call (.builtin "isinstance") [.ref x, .ref C]) Q E s :=
  call_isinstance (S := fun _ R s' => Sp w s₀ W s' ∧ R (.ok (.ret (.bool false))) { s' with toks := s'.toks + 1 })
    (fun _ _ _ _ _ hs => isinstance_outer (isn_inst_nested hs.1 hx hd hc e hs.2) (by intro q; cases q)) ⟨S, h _ (S.toks _)⟩
theorem isTrueI {x D d C : Addr} (S : Sp w s₀ W s) (hx : (x, .inst D d) ∈ W) (e : isIn (K w.params) (.ref D) C = true) (h : Q (.bool true) s) : wpAny (model pg w) A (call (.builtin "isinstance") [.ref x, .ref C]) Q E s :=
  isi_call S.K (fun M => (Looks.ld (S.inst hx)).andThen .now) e (by intro q; cases q) h
theorem isNoneF {C : Addr} (S : Sp w s₀ W s) (e : isNotIn (K w.params) "NoneType" C = true) (h : ∀ s', Sp w s₀ W s' → Q (.bool false) s') : wpAny (model pg w) A (call (.builtin "isinstance") [.none, .ref C]) Q E s :=
  isn_call (P := fun _ => True) S.K (fun M => Looks.of_pure rfl) e (by intro q; cases q) trivial none_cls (h _ (S.toks _))
theorem isIntF {C : Addr} {i : Int} {t : Tok} (S : Sp w s₀ W s) (e : isNotIn (K w.params) "int" C = true) (h : ∀ s', Sp w s₀ W s' → Q (.bool false) s') : wpAny (model pg w) A (call (.builtin "isinstance") [.int i t, .ref C]) Q E s :=
  isn_call (P := fun _ => True) S.K (fun M => Looks.of_pure rfl) e (by intro q; cases q) trivial int_cls (h _ (S.toks _))
theorem isStrF {C : Addr} {i : Str} {t : Tok} (S : Sp w s₀ W s) (e : isNotIn (K w.params) "str" C = true) (h : ∀ s', Sp w s₀ W s' → Q (.bool false) s') : wpAny (model pg w) A (call (.builtin "isinstance") [.str i t, .ref C]) Q E s :=
  isn_call (P := fun _ => True) S.K (fun M => Looks.of_pure rfl) e (by intro q; cases q) trivial str_cls (h _ (S.toks _))
theorem isTupF {C a : Addr} {xs : List Value} (S : Sp w s₀ W s) (ha : (a, .tup xs) ∈ W) (e : isNotIn (K w.params) "tuple" C = true) (h : ∀ s', Sp w s₀ W s' → Q (.bool false) s') : wpAny (model pg w) A (call (.builtin "isinstance") [.ref a, .ref C]) Q E s := by
  obtain ⟨vs, n, e1, _⟩ := S.tup ha
  exact isn_call (P := fun h => ∃ o, h.get? a = some o ∧ o.cls = .type "tuple") S.K (fun M => (Looks.ld e1).andThen .now) e (by intro q; cases q) ⟨_, e1, rfl⟩ tuple_cls (h _ (S.toks _))
end
end Mine
end
section
open PySem PySem.W PySem.Calls PyProof.Rows
set_option maxRecDepth 100000
namespace Mine
section
variable {w : World} {s₀ s : Shared} {W W' R : Led} {A : Around} {E : Value → Shared → Prop} {Q : Value → Shared → Prop} {env : Env} {σ : Dm}
theorem bi1 {id : String} {pos : Pos} {a : Expr} (h : wpAny (model pg w) A (eval a env) (fun v s₁ => wpAny (model pg w) A (call (.builtin id) [v]) Q E s₁) E s) (hp : true = List.all [a] kdsPlain := by rfl) :
    wpAny (model pg w) A (callWith pos (.builtin id) [] (backTo pos (starEach [a] env)) []) Q E s :=
  callWith_builtin1 (wpAny_items_cons (wpAny_mono h (fun _ _ z => wpAny_items_nil z) fun _ _ z => z) (nst_eq hp)) (nst_eq hp)
theorem bi2 {id : String} {pos : Pos} {a b : Expr} (h : wpAny (model pg w) A (eval a env) (fun v s₁ => wpAny (model pg w) A (eval b env) (fun u s₂ => wpAny (model pg w) A (call (.builtin id) [v, u]) Q E s₂) E s₁) E s)
    (hp : true = List.all [a, b] kdsPlain := by rfl) :
    wpAny (model pg w) A (callWith pos (.builtin id) [] (backTo pos (starEach [a, b] env)) []) Q E s :=
  callWith_builtin1 (wpAny_items_cons (wpAny_mono h (fun _ _ z => wpAny_items_cons (wpAny_mono z (fun _ _ z => wpAny_items_nil z) fun _ _ z => z) (nst_eq (nst_tl hp))) fun _ _ z => z) (nst_eq hp)) (nst_eq hp) (nst_any (nst_tl hp))
theorem df1 {f : Value} {first : List Value} {pos : Pos} {a : Expr} (S : Sp w s₀ W s) (hk : keepIn (K w.params) f = true)
    (h : wpAny (model pg w) A (eval a env) (fun v s₁ => ArgZ w s₀ A f (first ++ [v]) Q E s₁) E s) (hp : true = List.all [a] kdsPlain := by rfl) :
    wpAny (model pg w) A (callWith pos f first (backTo pos (starEach [a] env)) []) Q E s :=
  argsN S hk (wpAny_items_cons (wpAny_mono h (fun _ _ z => wpAny_items_nil z) fun _ _ z => z) (nst_eq hp)) hp
theorem df2 {f : Value} {first : List Value} {pos : Pos} {a b : Expr} (S : Sp w s₀ W s) (hk : keepIn (K w.params) f = true)
    (h : wpAny (model pg w) A (eval a env) (fun v s₁ => wpAny (model pg w) A (eval b env) (fun u s₂ => ArgZ w s₀ A f (first ++ [v, u]) Q E s₂) E s₁) E s)
    (hp : true = List.all [a, b] kdsPlain := by rfl) :
    wpAny (model pg w) A (callWith pos f first (backTo pos (starEach [a, b] env)) []) Q E s :=
  argsN S hk (wpAny_items_cons (wpAny_mono h (fun _ _ z => wpAny_items_cons (wpAny_mono z (fun _ _ z => wpAny_items_nil z) fun _ _ z => z) (nst_eq (nst_tl hp))) fun _ _ z => z) (nst_eq hp)) hp
theorem df3 {f : Value} {first : List Value} {pos : Pos} {a b c : Expr} (S : Sp w s₀ W s) (hk : keepIn (K w.params) f = true)
    (h : wpAny (model pg w) A (eval a env) (fun v s₁ => wpAny (model pg w) A (eval b env) (fun u s₂ => wpAny (model pg w) A (eval c env) (fun t s₃ => ArgZ w s₀ A f (first ++ [v, u, t]) Q E s₃) E s₂) E s₁) E s)
    (hp : true = List.all [a, b, c] kdsPlain := by rfl) :
    wpAny (model pg w) A (callWith pos f first (backTo pos (starEach [a, b, c] env)) []) Q E s :=
  argsN S hk (wpAny_items_cons (wpAny_mono h (fun _ _ z => wpAny_items_cons (wpAny_mono z (fun _ _ z => wpAny_items_cons (wpAny_mono z (fun _ _ z => wpAny_items_nil z) fun _ _ z => z) (nst_eq (nst_tl (nst_tl hp)))) fun _ _ z => z) (nst_eq (nst_tl hp))) fun _ _ z => z) (nst_eq hp)) hp
theorem isRef {x : DV} {v : Value} (S : Sp w s₀ (objs σ ++ R) s) (hv : er v = x.val) (ok : x.ok σ) (h : ∀ s', Sp w s₀ (objs σ ++ R) s' → Q (.bool (match x with | .rf _ => true | _ => false)) s') :
    wpAny (model pg w) A (call (.builtin "isinstance") [v, .ref 155]) Q E s := by
  cases x with
  | none => obtain rfl := er_none hv; exact isNoneF S (by kernel_rfl) h
  | int i => obtain ⟨t, rfl⟩ := er_int hv; exact isIntF S (by kernel_rfl) h
  | str i => obtain ⟨t, rfl⟩ := er_str hv; exact isStrF S (by kernel_rfl) h
  | rf f => obtain rfl := er_ref hv; exact isTrueI S (mRf ok (.head _)) (by kernel_rfl) (h _ S)
theorem rfI {f : Rf} (hf : f ∈ σ.refs) : (f.r, SO.inst 155 f.rd) ∈ objs σ ++ R := mRf hf (.head _)
theorem rfD {f : Rf} (hf : f ∈ σ.refs) : (f.rd, SO.dict [(k "target", .ref (σ.A.tg f.j)), (k "is_weak", .bool false)]) ∈ objs σ ++ R := mRf hf (.tail _ (.head _))
theorem hold_t {j : Bool} (S : Sp w s₀ (objs σ ++ R) s) (hA : Rm A 1) (h : ∀ s', Sp w s₀ (objs (σ.addc j 1) ++ R) s' → Q .none s') : wpAny (model pg w) A (call (.ref 480) [.ref σ.A.ctr, .ref (σ.A.tg j)]) Q E s := by
  cases j with
  | false => exact hold_spec S hA (mF (i := 11) rfl) (uF (i := 12) (σ' := { σ with c0 := σ.c0 + 1 }) rfl rfl) rfl (by kernel_rfl) (by kernel_rfl) rfl h
  | true => exact hold_spec S hA (mF (i := 14) rfl) (uF (i := 15) (σ' := { σ with c1 := σ.c1 + 1 }) rfl rfl) rfl (by kernel_rfl) (by kernel_rfl) rfl h
theorem let_go_t {j : Bool} (S : Sp w s₀ (objs σ ++ R) s) (hA : Rm A 1) (hl : σ.zero.length ≤ 1000) (hc : 1 < σ.cj j) (h : ∀ s', Sp w s₀ (objs (σ.addc j (-1)) ++ R) s' → Q .none s') :
    wpAny (model pg w) A (call (.ref 487) [.ref σ.A.ctr, .ref (σ.A.tg j)]) Q E s := by
  cases j with
  | false =>
    refine let_go_gen 0 S hA (mF (i := 11) rfl) (σ₁ := { σ with c0 := σ.c0 - 1 }) rfl rfl rfl (mF (i := 11) rfl) (uF (i := 12) rfl rfl) hl rfl (by kernel_rfl) (by kernel_rfl) rfl fun s' S' => ?_
    have hc : 1 < σ.c0 := hc
    rw [if_neg (by lia)] at S'
    exact h _ S'
  | true =>
    refine let_go_gen 0 S hA (mF (i := 14) rfl) (σ₁ := { σ with c1 := σ.c1 - 1 }) rfl rfl rfl (mF (i := 14) rfl) (uF (i := 15) rfl rfl) hl rfl (by kernel_rfl) (by kernel_rfl) rfl fun s' S' => ?_
    have hc : 1 < σ.c1 := hc
    rw [if_neg (by lia)] at S'
    exact h _ S'
theorem take_spec {x : DV} {v : Value} (S : Sp w s₀ (objs σ ++ R) s) (hA : Rm A 2) (hv : er v = x.val) (ok : x.ok σ) (h : ∀ s', Sp w s₀ (objs (σ.take x) ++ R) s' → Q v s') :
    wpAny (model pg w) A (call (.ref 501) [.ref σ.A.ctr, v]) Q E s := by
  refine callS [(k "value", v), (k "self", .ref σ.A.ctr)] S hA.lt rfl (by kernel_rfl) (BindsTo.of_eq rfl) (fun L s1 S1 => ?_)
  refine wpAny_execs_cons (wpAny_If (wpAny_isTrue_Not (wpAny_isTrue_value (callN (nmB (v := .builtin "isinstance") S1 (by kernel_rfl) (by kernel_rfl) (bi2 ?_))))))
  refine nmL S1 (mR (.head _)) rfl (nmG S1 (by kernel_rfl) (isRef S1 hv ok fun s2 S2 => wpAny_truthy_bool ?_))
  cases x with
  | rf f =>
    obtain rfl := er_ref hv
    refine wpAny_execs_nil ?_
    refine wpAny_execs_cons (wpAny_Expr (callM (nmL S2 (mR (.head _)) rfl (mtI (f := 480) S2 (mF (i := 3) rfl) (mF (i := 4) rfl) rfl (by kernel_rfl) (df1 S2 (by kernel_rfl) ?_)))))
    refine Attribute_any_ (nmL S2 (mR (.head _)) rfl (getAr S2 (rfI ok) (rfD ok) rfl (by kernel_rfl) fun s3 S3 => ?_))
    refine ⟨⟨_, S3⟩, hold_t S3 (hA.down _) fun s4 S4 => ?_⟩
    have ok' : f ∈ (σ.addc f.j 1).refs := by unfold Dm.addc; split <;> exact ok
    refine wpAny_execs_cons (wpAny_If (wpAny_isTrue_value (Attribute_any_ (nmL S4 (mR (.head _)) rfl (getA S4 (rfI ok') (rfD ok') rfl (by kernel_rfl) fun v s5 ev S5 => ?_)))))
    obtain rfl := er_bool ev
    refine wpAny_truthy_bool (wpAny_execs_nil ?_)
    exact wpAny_execs_cons (wpAny_Return_some (nmL S5 (mR (.head _)) rfl (h _ S5.out1)))
  | _ => exact wpAny_execs_cons (wpAny_Return_some (nmL S2 (mR (.head _)) rfl (h _ S2.out1)))
end
end Mine
end
section
open PySem PySem.W PySem.Calls PyProof.Rows
set_option maxRecDepth 100000
namespace Mine
section
variable {w : World} {s₀ s : Shared} {W W' R : Led} {A : Around} {E : Value → Shared → Prop} {Q : Value → Shared → Prop} {env : Env} {σ : Dm}
theorem Sp.rot3 {a b c : Addr × SO} (S : Sp w s₀ (a :: b :: c :: W) s) : Sp w s₀ (b :: c :: a :: W) s := S.perm ((List.Perm.swap b a _).trans (.cons b (.swap c a _)))
theorem newL {vs : List Value} {Q : Value → Shared → Prop} (S : Sp w s₀ W s) (h : ∀ l s', Sp w s₀ ((l, .list (vs.map er)) :: W) s' → Q (.ref l) s') (hz : Nat.ble vs.length 1000 = true := by rfl) : wpAny (model pg w) A (newList vs) Q E s :=
  wpAny_newObj_type (h _ _ (S.push (t := s.toks) (o := listOf vs.toArray 0) (x := .list (vs.map er)) ⟨vs, 0, rfl, rfl⟩)) (by show vs.toArray.size ≤ sizeLine; rw [List.size_toArray]; exact fit (Nat.le_of_ble_eq_true hz))
theorem newT {vs : List Value} {Q : Value → Shared → Prop} (S : Sp w s₀ W s) (h : ∀ l s', Sp w s₀ ((l, .tup (vs.map er)) :: W) s' → Q (.ref l) s') (hz : Nat.ble vs.length 1000 = true := by rfl) : wpAny (model pg w) A (newTuple vs) Q E s :=
  wpAny_newObj_type (h _ _ (S.push (t := s.toks) (o := { cls := .type "tuple", data := .seq vs.toArray 0 }) (x := .tup (vs.map er)) ⟨vs, 0, rfl, rfl⟩)) (by show vs.toArray.size ≤ sizeLine; rw [List.size_toArray]; exact fit (Nat.le_of_ble_eq_true hz))
noncomputable def clv (K : Frag) (C : Addr) (name : Str) (v : Value) : Bool := readsIn K C (.type "type") && (match findCls K (.ref C) (.type "type") name with | some (.val u) => u == v | _ => false) && (specialIn K (.ref C) "__getattribute__" == some (some (.builtin "type.__getattribute__"))) && handedIn v
theorem mtCls {C : Addr} {name : Str} {v : Value} {pl : Sem Bool} {Q : Value × List Value → Shared → Prop} (S : Sp w s₀ W s) (hc : clv (K w.params) C name v = true) (h : ∀ s', Sp w s₀ W s' → Q (v, []) s') :
    wpAny (model pg w) A (getMethod (.ref C) name pl) Q E s := by
  simp only [clv, Bool.and_eq_true, beq_iff_eq] at hc
  obtain ⟨⟨⟨c1, c2⟩, c3⟩, c4⟩ := hc
  split at c2
  · rename_i u hu
    obtain rfl := beq_iff_eq.mp c2
    exact method_cls S.K c3 (cls_value S.K c1 hu c4 (h _ (S.toks _)))
  · cases c2
theorem initS (m : List (Str × Value)) {Q : Shared → Prop} {name qual : Str} {params : Arguments} {body : List Stmt} {scope : Scope} {dV kV doc pm cdv ct oc : Value} {an od : Option Addr} {osl : Array (Option Value)} {f : Addr} {args : List Value} {kw : List (Str × Value)}
    (S : Sp w s₀ W s) (hA : A.depth < recursionLimit) (ho : (K w.params).lookup f = some ⟨oc, od, .func (fnOf name qual params body scope dV kV doc pm an cdv ct), osl⟩)
    (hcd : codeIn (K w.params) cdv qual = true) (hbind : BindsTo s (fnOf name qual params body scope dV kV doc pm an cdv ct) ⟨args, kw⟩ m.reverse)
    (h : ∀ L s', Sp w s₀ ((L, .ns m) :: W) s' → wpAny (model pg w) (A.deeper (envOf qual scope L f cdv)) (execs body (envOf qual scope L f cdv)) (fun fl s'' => retv fl = .none ∧ Q s'') (fun _ _ => False) s')
    (hloc : (m.reverse.all fun y => decide (scope.names.lookup y.1 = some .local)) = true := by rfl) (hcell : (scope.names.all fun y => !(y.2 == .cell)) = true := by rfl)
    (hco : scope.isCoroutine = false := by rfl) (hgen : scope.isGenerator = false := by rfl) (hk : scope.kind = .function := by rfl) :
    codeAny (model pg w) A (.call (.ref f) ⟨args, kw⟩) (fun r s'' => r = .ok (.ret .none) ∧ Q s'') s :=
  defC S hA ho hcd hbind (fun L s' S' => wpAny_mono (h L s' (by rw [List.reverse_reverse] at S'; exact S')) (fun fl _ z => ⟨by rw [z.1], z.2⟩) fun _ _ z => z.elim) hloc hcell hco hgen hk
theorem asg {o val : Expr} {name : Str} {pos' pos : Pos} {Q : Flow → Shared → Prop} (h : wpAny (model pg w) A (eval val env) (fun v s₁ => wpAny (model pg w) A (eval o env) (fun ov s₂ => wpAny (model pg w) A (setAttr ov name v) (fun _ => Q .next) E s₂) E s₁) E s)
    (hs : swapsWith val (some (.Attribute o name pos')) pos.line env = pure false := by rfl) : wpAny (model pg w) A (exec (.Assign [.Attribute o name pos'] val pos) env) Q E s := plainObj_wpAny_Assign_Attribute h hs
noncomputable abbrev thF (num : Int) (wl : Addr) : List (Str × Value) := [(k "number", vi num), (k "count", vi 0), (k "blessed", .none), (k "weak", .ref wl), (k "is_destroyed", .bool false), (k "is_freed", .bool false)]
theorem thing_init {x C d : Addr} {n : Int} {t : Tok} (S : Sp w s₀ ((x, .inst C d) :: (d, .dict []) :: W) s) (hA : Rm A 1) (hw : ((["number", "count", "blessed", "weak", "is_destroyed", "is_freed"] : List String).all fun y => wr (K w.params) C (k y)) = true)
    (h : ∀ wl s', Sp w s₀ ((x, .inst C d) :: (d, .dict (thF n wl)) :: (wl, .list []) :: W) s' → Q .none s') :
    wpAny (model pg w) A (call (.ref 35) [.ref x, .int n t]) Q E s := by
  simp only [List.all_cons, List.all_nil, Bool.and_true, Bool.and_eq_true] at hw
  obtain ⟨w1, w2, w3, w4, w5, w6⟩ := hw
  refine callS0 [(k "number", .int n t), (k "self", .ref x)] S hA.lt rfl (by kernel_rfl) (BindsTo.of_eq rfl) (fun L s1 S1 => ?_)
  refine wpAny_execs_cons (asg (nmL S1 (.head _) rfl (nmL S1 (.head _) rfl ?_)))
  refine setA S1 (.tail _ (.head _)) (.tail (.tail .head)) w1 fun s2 S2 => ?_
  refine wpAny_execs_cons (asg (wpAny_Constant_int (nmL (S2.toks _) (.head _) rfl ?_)))
  refine setA (S2.toks _) (.tail _ (.head _)) (.tail (.tail .head)) w2 fun s3 S3 => ?_
  refine wpAny_execs_cons (asg (wpAny_Constant_none (nmL S3 (.head _) rfl ?_)))
  refine setA S3 (.tail _ (.head _)) (.tail (.tail .head)) w3 fun s4 S4 => ?_
  refine wpAny_execs_cons (asg (List_ (wpAny_items_nil (newL S4 fun wl s5 S5 => nmL S5 (.tail _ (.head _)) rfl ?_))))
  refine setA S5 (.tail _ (.tail _ (.head _))) (.tail (.tail (.tail .head))) w4 fun s6 S6 => ?_
  refine wpAny_execs_cons (asg (wpAny_Constant_bool (nmL S6 (.tail _ (.head _)) rfl ?_)))
  refine setA S6 (.tail _ (.tail _ (.head _))) (.tail (.tail (.tail .head))) w5 fun s7 S7 => ?_
  refine wpAny_execs_cons (asg (wpAny_Constant_bool (nmL S7 (.tail _ (.head _)) rfl ?_)))
  refine setA S7 (.tail _ (.tail _ (.head _))) (.tail (.tail (.tail .head))) w6 fun s8 S8 => ?_
  exact wpAny_execs_nil (h wl _ (S8.sub (List.Sublist.cons_cons _ (.cons _ (.refl _)))).rot3)
theorem scalar_init {x d : Addr} {n : Int} {t : Tok} {v : Value} (S : Sp w s₀ ((x, .inst 59 d) :: (d, .dict []) :: W) s) (hA : Rm A 2)
    (h : ∀ wl s', Sp w s₀ ((x, .inst 59 d) :: (d, .dict (thF n wl ++ [(k "value", er v), (k "magic", .none)])) :: (wl, .list []) :: W) s' → Q .none s') :
    codeAny (model pg w) A (.call (.ref 56) ⟨[.ref x, .int n t, v], []⟩) (fun r s'' => r = .ok (.ret .none) ∧ Q .none s'') s := by
  refine initS [(k "value", v), (k "number", .int n t), (k "self", .ref x)] S hA.lt rfl (by kernel_rfl) (BindsTo.of_eq rfl) (fun L s1 S1 => ?_)
  refine wpAny_execs_cons (wpAny_Expr (callM (nmG (v := .ref 38) S1 (by kernel_rfl) (mtCls (v := .ref 35) S1 (by kernel_rfl) fun s2 S2 => df2 S2 (by kernel_rfl) ?_))))
  refine nmL S2 (.head _) rfl (nmL S2 (.head _) rfl ⟨⟨_, S2⟩, thing_init S2.rot3 (hA.down _) (by kernel_rfl) fun wl s3 S3 => ?_⟩)
  have m : (L, SO.ns [(k "value", v), (k "number", .int n t), (k "self", .ref x)]) ∈ (x, SO.inst 59 d) :: (d, .dict (thF n wl)) :: (wl, .list []) :: (L, .ns [(k "value", v), (k "number", .int n t), (k "self", .ref x)]) :: W := .tail _ (.tail _ (.tail _ (.head _)))
  refine wpAny_execs_cons (asg (nmL S3 m rfl (nmL S3 m rfl ?_)))
  refine setA S3 (.head _) (.tail .head) (by kernel_rfl) fun s4 S4 => ?_
  have m : (L, SO.ns [(k "value", v), (k "number", .int n t), (k "self", .ref x)]) ∈ (x, SO.inst 59 d) :: (d, .dict (thF n wl ++ [(k "value", er v)])) :: (wl, .list []) :: (L, .ns [(k "value", v), (k "number", .int n t), (k "self", .ref x)]) :: W := .tail _ (.tail _ (.tail _ (.head _)))
  refine wpAny_execs_cons (asg (wpAny_Constant_none (nmL S4 m rfl ?_)))
  refine setA S4 (.head _) (.tail .head) (by kernel_rfl) fun s5 S5 => ?_
  exact wpAny_execs_nil ⟨rfl, h wl _ (S5.sub (.cons_cons _ (.cons_cons _ (.cons_cons _ (.cons _ (.refl _))))))⟩
theorem array_init {x d : Addr} {n : Int} {t : Tok} (S : Sp w s₀ ((x, .inst 78 d) :: (d, .dict []) :: W) s) (hA : Rm A 2)
    (h : ∀ wl ip s', Sp w s₀ ((x, .inst 78 d) :: (d, .dict (thF n wl ++ [(k "items", .ref ip), (k "tied", .none)])) :: (wl, .list []) :: (ip, .list []) :: W) s' → Q .none s') :
    codeAny (model pg w) A (.call (.ref 75) ⟨[.ref x, .int n t], []⟩) (fun r s'' => r = .ok (.ret .none) ∧ Q .none s'') s := by
  refine initS [(k "number", .int n t), (k "self", .ref x)] S hA.lt rfl (by kernel_rfl) (BindsTo.of_eq rfl) (fun L s1 S1 => ?_)
  refine wpAny_execs_cons (wpAny_Expr (callM (nmG (v := .ref 38) S1 (by kernel_rfl) (mtCls (v := .ref 35) S1 (by kernel_rfl) fun s2 S2 => df2 S2 (by kernel_rfl) ?_))))
  refine nmL S2 (.head _) rfl (nmL S2 (.head _) rfl ⟨⟨_, S2⟩, thing_init S2.rot3 (hA.down _) (by kernel_rfl) fun wl s3 S3 => ?_⟩)
  have S3 := S3.perm (W' := (L, .ns [(k "number", .int n t), (k "self", .ref x)]) :: (x, SO.inst 78 d) :: (d, .dict (thF n wl)) :: (wl, .list []) :: W) (List.perm_middle (l₁ := [_, _, _]))
  refine wpAny_execs_cons (asg (List_ (wpAny_items_nil (newL S3 fun ip s4 S4 => nmL S4 (.tail _ (.head _)) rfl ?_))))
  refine setA S4 (.tail _ (.tail _ (.head _))) (.tail (.tail (.tail .head))) (by kernel_rfl) fun s5 S5 => ?_
  refine wpAny_execs_cons (asg (wpAny_Constant_none (nmL S5 (.tail _ (.head _)) rfl ?_)))
  refine setA S5 (.tail _ (.tail _ (.head _))) (.tail (.tail (.tail .head))) (by kernel_rfl) fun s6 S6 => ?_
  exact wpAny_execs_nil ⟨rfl, h wl ip _ ((S6.sub (.cons_cons _ (.cons _ (.refl _)))).perm (List.perm_middle (l₁ := [_, _, _])).symm)⟩
theorem ref_init {x d : Addr} {v : Value} (S : Sp w s₀ ((x, .inst 155 d) :: (d, .dict []) :: W) s) (hA : Rm A 1)
    (h : ∀ s', Sp w s₀ ((x, .inst 155 d) :: (d, .dict [(k "target", er v), (k "is_weak", .bool false)]) :: W) s' → Q .none s') :
    codeAny (model pg w) A (.call (.ref 152) ⟨[.ref x, v], []⟩) (fun r s'' => r = .ok (.ret .none) ∧ Q .none s'') s := by
  refine initS [(k "is_weak", .bool false), (k "target", v), (k "self", .ref x)] S hA.lt rfl (by kernel_rfl) ?b (fun L s1 S1 => ?_)
  case b => exact binds_K S.K rfl rfl rfl rfl rfl
  refine wpAny_execs_cons (asg (nmL S1 (.head _) rfl (nmL S1 (.head _) rfl ?_)))
  refine setA S1 (.tail _ (.head _)) (.tail (.tail .head)) (by kernel_rfl) fun s2 S2 => ?_
  refine wpAny_execs_cons (asg (nmL S2 (.head _) rfl (nmL S2 (.head _) rfl ?_)))
  refine setA S2 (.tail _ (.head _)) (.tail (.tail .head)) (by kernel_rfl) fun s3 S3 => ?_
  exact wpAny_execs_nil ⟨rfl, h _ (S3.sub (.cons _ (.refl _)))⟩
end
end Mine
end
section
open PySem PySem.W PySem.Calls PyProof.Rows
set_option maxRecDepth 100000
namespace Mine
section
variable {w : World} {s₀ s : Shared} {W W' R : Led} {A : Around} {E : Value → Shared → Prop} {Q : Value → Shared → Prop} {env : Env} {σ : Dm}
noncomputable abbrev hpF (lim : Addr) (n : Int) (zp : Addr) : List (Str × Value) := [(k "limits", .ref lim), (k "last", vi n), (k "zero", .ref zp)]
theorem next_spec {hp hpd lim zp : Addr} {n : Int} (S : Sp w s₀ W s) (hA : Rm A 1) (hx : (hp, .inst 218 hpd) ∈ W) (hx' : (hp, .inst 218 hpd) ∈ W') (U : Upd W hpd (.dict (hpF lim n zp)) (.dict (hpF lim (n + 1) zp)) W')
    (h : ∀ t s', Sp w s₀ W' s' → Q (.int (n + 1) t) s') : wpAny (model pg w) A (call (.ref 180) [.ref hp]) Q E s := by
  refine callS0 [(k "self", .ref hp)] S hA.lt rfl (by kernel_rfl) (BindsTo.of_eq rfl) (fun L s1 S1 => ?_)
  refine wpAny_execs_cons (wpAny_AugAssign_AttributeAny ?_)
  refine nmL S1 (.head _) rfl ?_
  refine getA S1 (.tail _ hx) (.tail _ U.mem) rfl (by kernel_rfl) (fun v s2 ev S2 => ?_)
  obtain ⟨t, rfl⟩ := er_int ev
  refine wpAny_Constant_int (PyProof.Rows.iadd_int ?_)
  refine setA ((S2.toks _).toks _) (.tail _ hx) (Upd.tail U) (by kernel_rfl) (fun s3 S3 => ?_)
  refine wpAny_execs_cons (wpAny_Return_some (Attribute_any_ (nmL S3 (.head _) rfl ?_)))
  refine getA S3 (.tail _ hx') (.tail _ U.mem2) rfl (by kernel_rfl) (fun v s4 ev S4 => ?_)
  obtain ⟨t4, rfl⟩ := er_int ev
  exact h _ _ (S4.sub (List.sublist_cons_self _ _))
theorem new_scalar_spec {hp hpd lim zp : Addr} {n : Int} {v : Value} (S : Sp w s₀ W s) (hA : Rm A 4) (hx : (hp, .inst 218 hpd) ∈ W) (hx' : (hp, .inst 218 hpd) ∈ W') (U : Upd W hpd (.dict (hpF lim n zp)) (.dict (hpF lim (n + 1) zp)) W')
    (h : ∀ x d wl s', Sp w s₀ ((x, .inst 59 d) :: (d, .dict (thF (n + 1) wl ++ [(k "value", er v), (k "magic", .none)])) :: (wl, .list []) :: W') s' → Q (.ref x) s') :
    wpAny (model pg w) A (call (.ref 187) [.ref hp, v]) Q E s := by
  refine callS0 [(k "value", v), (k "self", .ref hp)] S hA.lt rfl (by kernel_rfl) (BindsTo.of_eq rfl) (fun L s1 S1 => ?_)
  refine wpAny_execs_cons (wpAny_Return_some (callN (nmG (v := .ref 59) S1 (by kernel_rfl) (df2 S1 (by kernel_rfl) ?_))))
  refine callM (nmL S1 (.head _) rfl (mtI (f := 180) S1 (.tail _ hx) (.tail _ U.mem) rfl (by kernel_rfl) (args0 S1 (by kernel_rfl) ?_)))
  refine next_spec S1 ((hA.down _).le (by decide)) (.tail _ hx) (.tail _ hx') U.tail fun t s2 S2 => nmL S2 (.head _) rfl ⟨⟨_, S2⟩, ?_⟩
  refine mkC (fI := 56) S2 (by kernel_rfl) (by kernel_rfl) (by kernel_rfl) fun x d s3 S3 => ?_
  refine scalar_init (Q := fun _ s'' => Q (.ref x) s'') S3 (hA.down _).make fun wl s4 S4 => h _ _ wl _ (S4.sub (.cons_cons _ (.cons_cons _ (.cons_cons _ (.cons _ (.refl _))))))
theorem new_array_spec {hp hpd lim zp : Addr} {n : Int} (S : Sp w s₀ W s) (hA : Rm A 4) (hx : (hp, .inst 218 hpd) ∈ W) (hx' : (hp, .inst 218 hpd) ∈ W') (U : Upd W hpd (.dict (hpF lim n zp)) (.dict (hpF lim (n + 1) zp)) W')
    (h : ∀ x d wl ip s', Sp w s₀ ((x, .inst 78 d) :: (d, .dict (thF (n + 1) wl ++ [(k "items", .ref ip), (k "tied", .none)])) :: (wl, .list []) :: (ip, .list []) :: W') s' → Q (.ref x) s') :
    wpAny (model pg w) A (call (.ref 194) [.ref hp]) Q E s := by
  refine callS0 [(k "self", .ref hp)] S hA.lt rfl (by kernel_rfl) (BindsTo.of_eq rfl) (fun L s1 S1 => ?_)
  refine wpAny_execs_cons (wpAny_Return_some (callN (nmG (v := .ref 78) S1 (by kernel_rfl) (df1 S1 (by kernel_rfl) ?_))))
  refine callM (nmL S1 (.head _) rfl (mtI (f := 180) S1 (.tail _ hx) (.tail _ U.mem) rfl (by kernel_rfl) (args0 S1 (by kernel_rfl) ?_)))
  refine next_spec S1 ((hA.down _).le (by decide)) (.tail _ hx) (.tail _ hx') U.tail fun t s2 S2 => ⟨⟨_, S2⟩, ?_⟩
  refine mkC (fI := 75) S2 (by kernel_rfl) (by kernel_rfl) (by kernel_rfl) fun x d s3 S3 => ?_
  refine array_init (Q := fun _ s'' => Q (.ref x) s'') S3 (hA.down _).make fun wl ip s4 S4 => h _ _ wl ip _ (S4.sub (.cons_cons _ (.cons_cons _ (.cons_cons _ (.cons_cons _ (.cons _ (.refl _)))))))
theorem heap_init {x d : Addr} {lim : Addr} (S : Sp w s₀ ((x, .inst 218 d) :: (d, .dict []) :: W) s) (hA : Rm A 1)
    (h : ∀ zp s', Sp w s₀ ((x, .inst 218 d) :: (d, .dict (hpF lim 0 zp)) :: (zp, .list []) :: W) s' → Q .none s') :
    codeAny (model pg w) A (.call (.ref 173) ⟨[.ref x, .ref lim], []⟩) (fun r s'' => r = .ok (.ret .none) ∧ Q .none s'') s := by
  refine initS [(k "limits", .ref lim), (k "self", .ref x)] S hA.lt rfl (by kernel_rfl) (BindsTo.of_eq rfl) (fun L s1 S1 => ?_)
  refine wpAny_execs_cons (asg (nmL S1 (.head _) rfl (nmL S1 (.head _) rfl ?_)))
  refine setA S1 (.tail _ (.head _)) (.tail (.tail .head)) (by kernel_rfl) fun s2 S2 => ?_
  refine wpAny_execs_cons (asg (wpAny_Constant_int (nmL (S2.toks _) (.head _) rfl ?_)))
  refine setA (S2.toks _) (.tail _ (.head _)) (.tail (.tail .head)) (by kernel_rfl) fun s3 S3 => ?_
  refine wpAny_execs_cons (asg (List_ (wpAny_items_nil (newL S3 fun zp s4 S4 => nmL S4 (.tail _ (.head _)) rfl ?_))))
  refine setA S4 (.tail _ (.tail _ (.head _))) (.tail (.tail (.tail .head))) (by kernel_rfl) fun s5 S5 => ?_
  exact wpAny_execs_nil ⟨rfl, h zp _ (S5.sub (.cons_cons _ (.cons _ (.refl _)))).rot3⟩
noncomputable abbrev ctF (hp plc emp : Addr) : List (Str × Value) := [(k "heap", .ref hp), (k "destroy", .none), (k "places", .ref plc), (k "empties", .ref emp)]
theorem Dict0 {pos : Pos} {Q : Value → Shared → Prop} (S : Sp w s₀ W s) (h : ∀ l s', Sp w s₀ ((l, .dict []) :: W) s' → Q (.ref l) s') : wpAny (model pg w) A (eval (.Dict [] [] pos) env) Q E s :=
  wpAny_Dict_empty (h _ _ (S.push (t := s.toks) (o := { cls := .type "dict", data := .dict #[] }) (x := .dict []) ⟨[], 0, rfl, trivial⟩))
theorem counter_init {x d : Addr} {hp : Addr} (S : Sp w s₀ ((x, .inst 551 d) :: (d, .dict []) :: W) s) (hA : Rm A 1)
    (h : ∀ plc emp s', Sp w s₀ ((x, .inst 551 d) :: (d, .dict (ctF hp plc emp)) :: (plc, .dict []) :: (emp, .dict []) :: W) s' → Q .none s') :
    codeAny (model pg w) A (.call (.ref 473) ⟨[.ref x, .ref hp, .none], []⟩) (fun r s'' => r = .ok (.ret .none) ∧ Q .none s'') s := by
  refine initS [(k "destroy", .none), (k "heap", .ref hp), (k "self", .ref x)] S hA.lt rfl (by kernel_rfl) (BindsTo.of_eq rfl) (fun L s1 S1 => ?_)
  refine wpAny_execs_cons (asg (nmL S1 (.head _) rfl (nmL S1 (.head _) rfl ?_)))
  refine setA S1 (.tail _ (.head _)) (.tail (.tail .head)) (by kernel_rfl) fun s2 S2 => ?_
  refine wpAny_execs_cons (asg (nmL S2 (.head _) rfl (nmL S2 (.head _) rfl ?_)))
  refine setA S2 (.tail _ (.head _)) (.tail (.tail .head)) (by kernel_rfl) fun s3 S3 => ?_
  refine wpAny_execs_cons (asg (Dict0 S3 fun plc s4 S4 => nmL S4 (.tail _ (.head _)) rfl ?_))
  refine setA S4 (.tail _ (.tail _ (.head _))) (.tail (.tail (.tail .head))) (by kernel_rfl) fun s5 S5 => ?_
  refine wpAny_execs_cons (asg (Dict0 S5 fun emp s6 S6 => nmL S6 (.tail _ (.tail _ (.head _))) rfl ?_))
  refine setA S6 (.tail _ (.tail _ (.tail _ (.head _)))) (.tail (.tail (.tail (.tail .head)))) (by kernel_rfl) fun s7 S7 => ?_
  refine wpAny_execs_nil ⟨rfl, h plc emp _ ?_⟩
  have S8 := (S7.sub (W' := (emp, .dict []) :: (plc, .dict []) :: (x, .inst 551 d) :: (d, .dict (ctF hp plc emp)) :: W) (.cons_cons _ (.cons_cons _ (.cons _ (.refl _)))))
  exact S8.perm ((List.perm_append_comm (l₁ := [_, _]) (l₂ := [_, _])).append_right W |>.trans (.cons _ (.cons _ (.swap _ _ _))))
noncomputable abbrev limF : List (Str × Value) := [(k "width", vi 64), (k "depth", vi 50), (k "steps", vi 1000000), (k "text", vi 100000), (k "items", vi 7)]
theorem limits_init {x d : Addr} {t : Tok} (S : Sp w s₀ ((x, .inst 573 d) :: (d, .dict []) :: W) s) (hA : Rm A 1)
    (h : ∀ s', Sp w s₀ ((x, .inst 573 d) :: (d, .dict limF) :: W) s' → Q .none s') :
    codeAny (model pg w) A (.call (.ref 570) ⟨[.ref x], [(k "items", .int 7 t)]⟩) (fun r s'' => r = .ok (.ret .none) ∧ Q .none s'') s := by
  refine initS [(k "items", .int 7 t), (k "text", .int 100000 944), (k "steps", .int 1000000 941), (k "depth", .int 50 938), (k "width", .int 64 937), (k "self", .ref x)] S hA.lt rfl (by kernel_rfl) ?b (fun L s1 S1 => ?_)
  case b => exact binds_K S.K rfl rfl rfl rfl rfl
  refine wpAny_execs_cons (asg (nmL S1 (.head _) rfl (nmL S1 (.head _) rfl ?_)))
  refine setA S1 (.tail _ (.head _)) (.tail (.tail .head)) (by kernel_rfl) fun s2 S2 => ?_
  refine wpAny_execs_cons (asg (nmL S2 (.head _) rfl (nmL S2 (.head _) rfl ?_)))
  refine setA S2 (.tail _ (.head _)) (.tail (.tail .head)) (by kernel_rfl) fun s3 S3 => ?_
  refine wpAny_execs_cons (asg (nmL S3 (.head _) rfl (nmL S3 (.head _) rfl ?_)))
  refine setA S3 (.tail _ (.head _)) (.tail (.tail .head)) (by kernel_rfl) fun s4 S4 => ?_
  refine wpAny_execs_cons (asg (nmL S4 (.head _) rfl (nmL S4 (.head _) rfl ?_)))
  refine setA S4 (.tail _ (.head _)) (.tail (.tail .head)) (by kernel_rfl) fun s5 S5 => ?_
  refine wpAny_execs_cons (asg (nmL S5 (.head _) rfl (nmL S5 (.head _) rfl ?_)))
  refine setA S5 (.tail _ (.head _)) (.tail (.tail .head)) (by kernel_rfl) fun s6 S6 => ?_
  exact wpAny_execs_nil ⟨rfl, h _ (S6.sub (.cons _ (.refl _)))⟩
end
end Mine
end
section
open PySem PySem.W PySem.Calls PyProof.Rows
set_option maxRecDepth 100000
namespace Mine
section
variable {w : World} {s₀ s : Shared} {W W' R : Led} {A : Around} {E : Value → Shared → Prop} {Q : Value → Shared → Prop} {env : Env} {σ : Dm}
noncomputable abbrev erp (p : Str × Value) : Str × Value := (p.1, er p.2)
theorem all2_pairs : ∀ {es : List DictEntry} {fs : List (Str × Value)}, All2 (KeyIs w.params) es fs → ∃ kvs, Pairs (strKind pg w) es kvs ∧ kvs.map erp = fs ∧ ∀ e ∈ es, ∃ k, (strKind pg w).is k e.key = true ∧ e.hash = (strKind pg w).hash k
  | [], [], _ => ⟨[], .nil, rfl, fun _ h => by cases h⟩
  | e :: es, (x, v) :: fs, h => by
    obtain ⟨kvs, p, e1, h2⟩ := all2_pairs h.2
    obtain ⟨⟨t, ht⟩, hh, hv⟩ := h.1
    have hk : (strKind pg w).is x e.key = true := by rw [ht]; exact strKind_is _ _ _ _
    refine ⟨(x, e.val) :: kvs, .cons hk rfl p, ?_, fun e' he' => ?_⟩
    · rw [List.map_cons, e1]; show (x, er e.val) :: fs = _; rw [hv]
    · rcases List.mem_cons.mp he' with rfl | he'
      · exact ⟨x, hk, hh⟩
      · exact h2 e' he'
  | [], _ :: _, h => h.elim
  | _ :: _, [], h => h.elim
theorem pairs_all2 {es : List DictEntry} {kvs : List (Str × Value)} (p : Pairs (strKind pg w) es kvs) : (∀ e ∈ es, ∃ k, (strKind pg w).is k e.key = true ∧ e.hash = (strKind pg w).hash k) → All2 (KeyIs w.params) es (kvs.map erp) := by
  induction p with
  | nil => exact fun _ => trivial
  | @cons e kv es kvs h1 h2 _ ih =>
    intro h
    refine ⟨?_, ih fun e' he' => h e' (.tail _ he')⟩
    obtain ⟨k, hk, hh⟩ := h e (.head _)
    obtain rfl := (strKind pg w).inj _ _ _ h1 hk
    exact ⟨Value.isStrOf_shape h1, hh, by rw [h2]⟩
theorem Sp.strD {d : Addr} {fs : List (Str × Value)} (S : Sp w s₀ W s) (h : (d, .dict fs) ∈ W) (hn : (fs.map (·.1)).Nodup) : ∃ kvs, s.heap.DictOf (strKind pg w) d kvs ∧ kvs.map erp = fs := by
  obtain ⟨es, n, e, a⟩ := S.dict h
  obtain ⟨kvs, p, e1, e2⟩ := all2_pairs a
  refine ⟨kvs, ⟨_, es.toArray, n, e, ⟨rfl, rfl, rfl⟩, rfl, fun e' he' => e2 e' (by simpa using he'), p, ?_⟩, e1⟩
  have : kvs.map (·.1) = fs.map (·.1) := by rw [← e1, List.map_map]; rfl
  rw [this]; exact hn
theorem dict_back {h' : Heap} {d : Addr} {kvs : List (Str × Value)} (x : h'.DictOf (strKind pg w) d kvs) : ∃ o, h'.get? d = some o ∧ (SO.dict (kvs.map erp)).Is w.params o := by
  obtain ⟨o, es, ep, e, ⟨c1, c2, c3⟩, hd, hk, p, _⟩ := x
  refine ⟨o, e, es.toList, ep, ?_, pairs_all2 p fun e' he' => hk e' (by simpa using he')⟩
  obtain ⟨c, d', dt, sl⟩ := o
  cases c1; cases c2; cases c3; cases hd; rfl
theorem stored_put {x : Str} {v : Value} : ∀ {kvs : List (Str × Value)}, (kvs.map (·.1)).Nodup → (stored kvs x v).map erp = put (kvs.map erp) x (er v)
  | [], _ => rfl
  | (y, u) :: r, hn => by
    rw [List.map_cons, List.nodup_cons] at hn
    rw [List.map_cons]
    show _ = if y = x then _ else _
    by_cases q : y = x
    · subst q
      rw [if_pos rfl]
      unfold stored
      simp only [List.any_cons, decide_true, Bool.true_or, if_true, List.map_cons]
      congr 1
      rw [List.map_map]
      refine List.map_congr_left fun p hp => ?_
      have : ¬ p.1 = y := fun e => hn.1 (List.mem_map.mpr ⟨p, hp, e⟩)
      simp [this]
    · rw [if_neg q, ← stored_put hn.2]
      unfold stored
      simp only [List.any_cons, decide_eq_false q, Bool.false_or, List.map_cons, if_neg q]
      split <;> rfl
theorem lookup_valueAt {x : Str} {v : Value} : ∀ {kvs : List (Str × Value)}, (kvs.map erp).lookup x = some v → ∃ v', valueAt kvs x = some v' ∧ er v' = v
  | [], h => by cases h
  | (y, u) :: r, h => by
    rw [List.map_cons, List.lookup_cons] at h
    unfold valueAt
    by_cases q : y = x
    · subst q
      simp only [beq_self_eq_true] at h
      refine ⟨u, by simp, Option.some.inj h⟩
    · have q' : (x == y) = false := by simpa using fun e : x = y => q e.symm
      rw [q'] at h
      obtain ⟨v', h1, h2⟩ := lookup_valueAt h
      refine ⟨v', ?_, h2⟩
      unfold valueAt at h1
      simpa [q] using h1
noncomputable def keysOk : List (Str × Value) → Bool
  | [] => true
  | x :: xs => !(xs.any fun y => decide (y.1 = x.1)) && keysOk xs
theorem keysOk_nodup : ∀ {fs : List (Str × Value)}, keysOk fs = true → (fs.map (·.1)).Nodup
  | [], _ => List.nodup_nil
  | x :: xs, h => by
    rw [keysOk, Bool.and_eq_true, Bool.not_eq_true'] at h
    rw [List.map_cons, List.nodup_cons]
    refine ⟨fun hm => ?_, keysOk_nodup h.2⟩
    obtain ⟨y, hy, e⟩ := List.mem_map.mp hm
    have := List.any_eq_false.mp h.1 y hy
    exact this (decide_eq_true e)
theorem gdI {d : Addr} {fs : List (Str × Value)} {x : Str} {t : Tok} {v : Value} (S : Sp w s₀ W s) (hd : (d, .dict fs) ∈ W) (hv : fs.lookup x = some v) (h : ∀ v' s', er v' = v → Sp w s₀ W s' → Q v' s')
    (hn' : keysOk fs = true := by kernel_rfl) : wpAny (model pg w) A (getItem (.ref d) (.str x t)) Q E s := by
  have hn := keysOk_nodup hn'
  obtain ⟨kvs, hD, e1⟩ := S.strD hd hn
  obtain ⟨v', h1, h2⟩ := lookup_valueAt (e1 ▸ hv)
  exact wpAny_getItem_of (strKind_is _ _ _ _) hD.mapOf h1 (h _ _ h2 (S.toks _))
theorem gd {d : Addr} {fs : List (Str × Value)} {x : Str} {t : Tok} {v : Value} {value slice : Expr} (S : Sp w s₀ W s) (hd : (d, .dict fs) ∈ W) (hv : fs.lookup x = some v) (h : ∀ v' s', er v' = v → Sp w s₀ W s' → Q v' s')
    (hn' : keysOk fs = true := by kernel_rfl) (hs : subscripted slice false (.ref d) (.str x t) = operate [.ref d, (.str x t)] (getItem (.ref d) (.str x t)) := by with_unfolding_all rfl) (hg : ∀ r, letTemporaryGo value (.ref d) r = pure () := by intro _; with_unfolding_all rfl) :
    wpAny (model pg w) A (subscriptTail value slice (.ref d) (.str x t)) Q E s := by
  have hn := keysOk_nodup hn'
  obtain ⟨kvs, hD, e1⟩ := S.strD hd hn
  exact subscriptTail_builtin hD.typeIs slot_dict_getitem.lookup (gdI S hd hv h hn') hs hg
theorem gdr {d a : Addr} {fs : List (Str × Value)} {x : Str} {t : Tok} {value slice : Expr} (S : Sp w s₀ W s) (hd : (d, .dict fs) ∈ W) (hv : fs.lookup x = some (.ref a)) (h : ∀ s', Sp w s₀ W s' → Q (.ref a) s')
    (hn' : keysOk fs = true := by kernel_rfl) (hs : subscripted slice false (.ref d) (.str x t) = operate [.ref d, (.str x t)] (getItem (.ref d) (.str x t)) := by with_unfolding_all rfl) (hg : ∀ r, letTemporaryGo value (.ref d) r = pure () := by intro _; with_unfolding_all rfl) :
    wpAny (model pg w) A (subscriptTail value slice (.ref d) (.str x t)) Q E s :=
  gd S hd hv (fun v s e S => by obtain rfl := er_ref e; exact h s S) hn' hs hg
theorem sdI {d : Addr} {fs : List (Str × Value)} {x : Str} {t : Tok} {v : Value} {Q : Unit → Shared → Prop} (S : Sp w s₀ W s) (U : Upd W d (.dict fs) (.dict (put fs x (er v))) W') (h : ∀ s', Sp w s₀ W' s' → Q () s')
    (hn' : keysOk fs = true := by kernel_rfl) (hz : Nat.ble fs.length 900 = true := by rfl) : wpAny (model pg w) A (setItem (.ref d) (.str x t) v) Q E s := by
  have hn := keysOk_nodup hn'
  obtain ⟨kvs, hD, e1⟩ := S.strD U.mem hn
  have hk : (kvs.map (·.1)).Nodup := by rw [← e1, List.map_map] at hn; exact hn
  refine wpAny_setItem_pairs (strKind_is _ _ _ _) hD (fun h' x' hs' => ?_) (hsz := by rw [← List.length_map erp, e1, sizeLine_eq]; have := Nat.le_of_ble_eq_true hz; lia)
  obtain ⟨o, o1, o2⟩ := dict_back x'
  rw [stored_put hk, e1] at o2
  exact h _ (S.change' U hs' o1 o2)
theorem Sp.idle {d : Addr} {K : Type} [DecidableEq K] {knd : KeyKind pg w K} (S : Sp w s₀ W s) (hd : (d, .dict []) ∈ W) : s.heap.DictOf knd d [] := by
  obtain ⟨es, n, e, a⟩ := S.dict hd
  cases es with
  | nil => exact ⟨_, #[], n, e, ⟨rfl, rfl, rfl⟩, rfl, fun _ h => by simp at h, .nil, List.nodup_nil⟩
  | cons _ _ => exact a.elim
theorem Sp.notSys {p : Addr × SO} (S : Sp w s₀ W s) (h : p ∈ W) : (p.1 == sysModules) = false := by
  have h1 := S.out p h
  have h2 : 2 < s₀.heap.objs.size := Heap.lt_size (S.gd.K 2 _ rfl)
  refine beq_eq_false_iff_ne.mpr fun q => ?_
  rw [q] at h1
  exact absurd (Nat.lt_of_lt_of_le h2 h1) (by decide)
theorem popNo {d : Addr} {n : Int} {t : Tok} (S : Sp w s₀ W s) (hd : (d, .dict []) ∈ W) (h : ∀ s', Sp w s₀ W s' → Q .none s') : wpAny (model pg w) A (call (.builtin "dict.pop") [.ref d, .int n t, .none]) Q E s :=
  call_meetsIn PySem.F.slot_dict_pop (S.idle (knd := intKind pg w) hd).typeIs PySem.F.entry_dict_pop (PySem.F.args_dict_pop_3 _ _ _) (meets_dict_pop_default (knd := intKind pg w) (k := n) d (intKind_is pg w n t) (S.notSys hd) rfl .none) ⟨[], S.idle hd, rfl, h _ (S.toks _)⟩
theorem mtDPop {l : Addr} {pl : Sem Bool} {Q : Value × List Value → Shared → Prop} (S : Sp w s₀ W s) (hl : (l, .dict []) ∈ W) (h : Q (.builtin "dict.pop", [.ref l]) s) :
    wpAny (model pg w) A (getMethod (.ref l) (k "pop") pl) Q E s :=
  have hD := S.idle (knd := intKind pg w) hl
  getMethod_builtin hD.typeIs PySem.F.plainAttrs_dict PySem.F.slot_dict_pop PySem.F.type_dict_pop hD.mapOf.noDict h
end
end Mine
end
section
open PySem PySem.W PySem.Calls PyProof.Rows
set_option maxRecDepth 100000
namespace Mine
section
variable {w : World} {s₀ s : Shared} {W W' R : Led} {A : Around} {E : Value → Shared → Prop} {Q : Value → Shared → Prop} {env : Env} {σ : Dm}
theorem lenL {l : Addr} {xs : List Value} (S : Sp w s₀ W s) (hl : (l, .list xs) ∈ W) (h : ∀ t s', Sp w s₀ W s' → Q (.int xs.length t) s') (hz : xs.length ≤ 1000) : wpAny (model pg w) A (call (.builtin "len") [.ref l]) Q E s := by
  obtain ⟨vs, h1, h2⟩ := S.isList hl
  have e : xs.length = vs.length := by rw [← h2, List.length_map]
  refine len_list h1 (by rw [List.size_toArray]; lia) ?_
  rw [List.size_toArray, ← e]
  exact h _ _ (S.toks _)
theorem er_at {vs : List Value} {j : Nat} {x : Value} (h : (vs.map er)[j]? = some x) : ∃ v, vs[j]? = some v ∧ er v = x := by
  rw [List.getElem?_map] at h
  exact Option.map_eq_some_iff.mp h
theorem itL {l : Addr} {xs : List Value} {i : Int} {t : Tok} {x : Value} {value slice : Expr} (S : Sp w s₀ W s) (hl : (l, .list xs) ∈ W) (h0 : 0 ≤ i) (hx : xs[i.toNat]? = some x) (hz : xs.length ≤ 1000) (h : ∀ v s', er v = x → Sp w s₀ W s' → Q v s')
    (hs : subscripted slice false (.ref l) (.int i t) = operate [.ref l, .int i t] (getItem (.ref l) (.int i t)) := by with_unfolding_all rfl) (hg : ∀ r, letTemporaryGo value (.ref l) r = pure () := by intro _; with_unfolding_all rfl) :
    wpAny (model pg w) A (subscriptTail value slice (.ref l) (.int i t)) Q E s := by
  obtain ⟨vs, h1, h2⟩ := S.isList hl
  obtain ⟨v, h3, h4⟩ := er_at (h2 ▸ hx)
  have := (List.getElem?_eq_some_iff.mp hx).1
  exact item_listL h1 h0 (by lia) h3 (h _ _ h4 S) hs hg
theorem itT {l : Addr} {xs : List Value} {i : Int} {t : Tok} {x : Value} {value slice : Expr} (S : Sp w s₀ W s) (hl : (l, .tup xs) ∈ W) (h0 : 0 ≤ i) (hx : xs[i.toNat]? = some x) (hz : xs.length ≤ 1000) (h : ∀ v s', er v = x → Sp w s₀ W s' → Q v s')
    (hs : subscripted slice false (.ref l) (.int i t) = operate [.ref l, .int i t] (getItem (.ref l) (.int i t)) := by with_unfolding_all rfl) (hg : ∀ r, letTemporaryGo value (.ref l) r = pure () := by intro _; with_unfolding_all rfl) :
    wpAny (model pg w) A (subscriptTail value slice (.ref l) (.int i t)) Q E s := by
  obtain ⟨vs, n, h1, h2⟩ := S.tup hl
  obtain ⟨v, h3, h4⟩ := er_at (h2 ▸ hx)
  have := (List.getElem?_eq_some_iff.mp hx).1
  refine item_tupleL (j := i.toNat) ⟨_, h1, rfl, n, rfl⟩ (by lia) (by lia) ?_ h3 (h _ _ h4 S) hs hg
  have e : xs.length = vs.length := by rw [← h2, List.length_map]
  unfold seqIndex?
  have : ¬ i < 0 := by lia
  simp only [if_neg this]
  rw [if_pos (by simp; lia)]
theorem stI {l : Addr} {xs : List Value} {i : Int} {t : Tok} {v : Value} {Q : Unit → Shared → Prop} (S : Sp w s₀ W s) (h0 : 0 ≤ i) (hi : i < xs.length) (hz : xs.length ≤ 1000) (U : Upd W l (.list xs) (.list (xs.set i.toNat (er v))) W') (h : ∀ s', Sp w s₀ W' s' → Q () s') :
    wpAny (model pg w) A (setItem (.ref l) (.int i t) v) Q E s := by
  obtain ⟨vs, n, h1, h2⟩ := S.list U.mem
  have e : xs.length = vs.length := by rw [← h2, List.length_map]
  refine ki_setAt h1 h0 (by lia) (by rw [List.size_toArray, ← e]; exact hi) (h _ (S.chList U h1 ⟨vs.set i.toNat v, ?_, ?_⟩))
  · rw [Array.setIfInBounds]; split <;> rename_i q
    · simp
    · simp at q; lia
  · rw [List.map_set, h2]
noncomputable def Pk (lo hi : Option Int) (xs ys : List Value) : Prop := ∀ vs : List Value, vs.map er = xs → ∃ us : List Value, slicePick vs.toArray lo hi none = us.toArray ∧ us.map er = ys
theorem pkRun {a b : Nat} {xs : List Value} (hab : a ≤ b) (hb : b ≤ xs.length) : Pk (some a) (some b) xs ((xs.drop a).take (b - a)) := fun vs e =>
  ⟨_, slicePick_run _ a b (by rw [List.size_toArray, ← List.length_map er, e]; exact hb) hab, by rw [List.map_take, List.map_drop]; show ((vs.map er).drop a).take (b - a) = _; rw [e]⟩
theorem pkFrom {a : Nat} {xs : List Value} : Pk (some a) none xs (xs.drop a) := fun vs e => ⟨_, slicePick_from' _ a, by rw [List.map_drop]; show (vs.map er).drop a = _; rw [e]⟩
theorem pkUpto {b : Nat} {xs : List Value} : Pk none (some b) xs (xs.take b) := fun vs e => ⟨_, slicePick_upto' _ b, by rw [List.map_take]; show (vs.map er).take b = _; rw [e]⟩
theorem slTail {value : Expr} {lower upper : Option Expr} {p : Pos} {o i : Value} {T id : String} (hT : s.TypeIs o T) (hl : typeLookup (.type T) "__getitem__" = pure (some (.builtin id))) (h : wpAny (model pg w) A (getItem o i) Q E s) :
    wpAny (model pg w) A (subscriptTail value (.Slice lower upper none p) o i) Q E s := by
  unfold subscriptTail
  refine wpAny_bind ?_
  rw [getitemInPython_of_ne hT.not_modules]
  refine wpAny_bind (wpAny_specialOf hT hl ?_)
  have fin : wpAny (model pg w) A (operate [i, o] (getItem o i)) (fun r s₃ => wpAny (model pg w) A (letTemporaryGo value o r >>= fun _ => pure r) Q E s₃) E s :=
    wpAny_operating (wpAny_mono h (fun r s₃ h₃ => wpAny_bind (wpAny_letTemporaryGo (wpAny_pure h₃))) fun _ _ x => x)
  first
    | exact wpAny_pure (wpAny_bind fin)
    | exact wpAny_bind (wpAny_pure (wpAny_bind fin))
    | exact wpAny_bind fin
theorem slR {value : Expr} {lower upper : Option Expr} {p pos : Pos}
    (h : wpAny (model pg w) A (eval value env) (fun o s₁ => wpAny (model pg w) A (evalPart lower env) (fun vl s₂ => wpAny (model pg w) A (evalPart upper env) (fun vu s₃ =>
      ∃ W l xs ys lo hi, o = .ref l ∧ Sp w s₀ W s₃ ∧ (l, .list xs) ∈ W ∧ xs.length ≤ 1000 ∧ IsPart vl lo ∧ IsPart vu hi ∧ Pk lo hi xs ys ∧ ∀ l' s', Sp w s₀ ((l', .list ys) :: W) s' → Q (.ref l') s') E s₂) E s₁) E s) :
    wpAny (model pg w) A (eval (.Subscript value (.Slice lower upper none p) pos) env) Q E s := by
  refine Subscript_ (wpAny_mono h (fun o s₁ h₁ => wpAny_Slice (wpAny_mono h₁ (fun vl s₂ h₂ => wpAny_mono h₂ (fun vu s₃ h₃ => ?_) fun _ _ e => e) fun _ _ e => e)) fun _ _ e => e)
  rw [evalPart_none]
  refine wpAny_pure ?_
  obtain ⟨W, l, xs, ys, lo, hi, rfl, S, hl, hz, p1, p2, pk, z⟩ := h₃
  have S1 := S.push (t := s₃.toks) (o := { cls := .type "slice", data := .fields #[vl, vu, .none] }) (x := .raw fun _ => True) trivial
  obtain ⟨vs, h1, h2⟩ := S1.isList (.tail _ hl)
  obtain ⟨us, k1, k2⟩ := pk vs h2
  refine slTail h1.typeIs list_getitem_lookup (wpAny_getItem_list_slice h1 (Heap.IsSliceOf.new ..) p1 p2 .none (by intro q; cases q) ?_ (by rw [List.size_toArray, ← List.length_map er, h2]; exact fit hz))
  have S2 := S1.push (t := s₃.toks) (o := { cls := .type "list", data := .seq (slicePick vs.toArray lo hi none) }) (x := .list ys) ⟨us, 0, by rw [k1], k2⟩
  exact z _ _ (S2.sub (.cons_cons _ (.cons _ (.refl _))))
theorem itemsOf {a : Addr} {o : Obj} {items : Array Value} {n : Nat} {Q : Array Value → Shared → Prop} (ho : s.heap.get? a = some o) (hd : o.data = .seq items n) (h : Q items s) : wpAny (model pg w) A (Builtin.List.listItems (.ref a)) Q E s := by
  unfold Builtin.List.listItems
  exact wpAny_bind (wpAny_seqItems ho hd (wpAny_pure h))
theorem allItemsOf {b : Addr} {o : Obj} {items : Array Value} {n : Nat} {msg : String} {Q : Array Value → Shared → Prop} (ho : s.heap.get? b = some o) (hc : o.cls = .type "list") (hd : o.data = .seq items n) (h : Q items s) : wpAny (model pg w) A (Builtin.List.listAllItems (.ref b) msg) Q E s := by
  unfold Builtin.List.listAllItems
  refine wpAny_bind (wpAny_typeOf (show s.TypeIs (.ref b) "list" from ⟨_, ho, hc⟩) ?_)
  rw [if_pos (by decide)]
  exact itemsOf ho hd h
theorem setSl {l sl b : Addr} {vl vu : Value} {lo hi : Option Int} {a c : Nat} {xs ys : List Value} {Q : Unit → Shared → Prop} (S : Sp w s₀ W s) (hb : (b, .list ys) ∈ W) (hs : s.heap.IsSliceOf sl vl vu .none) (p1 : IsPart vl lo) (p2 : IsPart vu hi)
    (hbd : sliceBounds lo hi none xs.length = ((a : Int), (c : Int), 1)) (hac : a ≤ c) (hz : xs.length ≤ 1000) (hz2 : ys.length ≤ 1000) (hlb : l ≠ b) (U : Upd W l (.list xs) (.list (xs.take a ++ ys ++ xs.drop c)) W') (h : ∀ s', Sp w s₀ W' s' → Q () s') :
    wpAny (model pg w) A (setItem (.ref l) (.ref sl) (.ref b)) Q E s := by
  obtain ⟨vs, n, e1, e2⟩ := S.list U.mem
  obtain ⟨us, n2, e3, e4⟩ := S.list hb
  have hl : s.heap.IsList l vs.toArray := ⟨_, e1, rfl, n, rfl⟩
  obtain ⟨os, hos, hcs, hds⟩ := id hs
  have hTs : s.TypeIs (.ref sl) "slice" := ⟨os, hos, hcs⟩
  have l1 : vs.length = xs.length := by rw [← e2, List.length_map]
  have l2 : us.length = ys.length := by rw [← e4, List.length_map]
  unfold setItem
  try with_reducible refine wpAny_holding ?_
  refine wpAny_bind (wpAny_sequenceKey hl.typeIs (by decide) ?_)
  refine wpAny_bind (wpAny_callSpecial?_slot (name := Str.ofString "__setitem__") hl.typeIs slot_list_setitem
    (wpAny_call_entry slot_list_setitem hl.typeIs entry_list_setitem ?_ (args_list_setitem _ _ _)))
  show wpAny _ _ (Builtin.List.listSubscript? (.ref sl) >>= _) _ _ s
  refine wpAny_bind ?_
  unfold Builtin.List.listSubscript?
  refine wpAny_bind (wpAny_specialOf hTs slice_no_index ?_)
  simp only [Option.isNone_none, if_true]
  refine wpAny_pure ?_
  show wpAny _ _ (typeOf (.ref sl) >>= _) _ _ s
  refine wpAny_bind (wpAny_typeOf hTs ?_)
  rw [if_neg (by decide)]
  rw [listSliceParts_eq]
  refine wpAny_bind (wpAny_bind (wpAny_field hos hds (x := .none) rfl (wpAny_bind (wpAny_listPart .none ?_))))
  rw [if_neg (by exact Bool.false_ne_true)]
  refine wpAny_bind (wpAny_field hos hds (x := vl) rfl (wpAny_bind (wpAny_listPart p1 ?_)))
  refine wpAny_bind (wpAny_field hos hds (x := vu) rfl (wpAny_bind (wpAny_listPart p2 (wpAny_pure ?_))))
  have hsr : Builtin.List.listSameRef (.ref l) (.ref b) = false := by show (l == b) = false; exact beq_eq_false_iff_ne.mpr hlb
  dsimp only
  rw [if_neg (by rw [hsr]; exact Bool.false_ne_true)]
  refine wpAny_bind (allItemsOf e3 rfl rfl ?_)
  refine wpAny_bind (itemsOf e1 rfl ?_)
  refine wpAny_bind (wpAny_of_eq (sliceIndices_raw lo hi none vs.toArray.size (by intro q; cases q)) ?_)
  rw [List.size_toArray, l1, hbd]
  dsimp only
  rw [if_pos (by decide)]
  refine wpAny_bind (wpAny_rule ?_)
  rw [listTooLong_small (by simp only [List.size_toArray]; lia)]
  simp only [Bool.false_eq_true, if_false]
  unfold Builtin.List.listUpdate
  have hf : (vs.toArray.extract 0 a ++ us.toArray ++ vs.toArray.extract (max (a : Int) c).toNat vs.toArray.size) = (vs.take a ++ us ++ vs.drop c).toArray := by
    have : (max (a : Int) c).toNat = c := by lia
    rw [this]
    apply Array.ext'
    simp
    exact List.take_of_length_le (by simp)
  refine wpAny_bind (wpAny_updateSeq e1 rfl ?_ (by rw [List.size_toArray, l1]; exact fit hz) ?_)
  · refine wpAny_bind (wpAny_letGo (wpAny_pure ⟨.none, rfl, wpAny_pure (h _ (S.chList U e1 ⟨_, hf, ?_⟩))⟩))
    rw [List.map_append, List.map_append, List.map_take, List.map_drop, e2, e4]
  · show (vs.toArray.extract 0 a ++ us.toArray ++ vs.toArray.extract (max (a : Int) c).toNat vs.toArray.size).size ≤ _
    rw [hf]
    simp only [List.size_toArray, List.length_append, List.length_take, List.length_drop, sizeLine_eq]; lia
theorem asgSl {o val : Expr} {lower upper : Option Expr} {p pos' pos : Pos} {Q : Flow → Shared → Prop}
    (h : wpAny (model pg w) A (eval val env) (fun v s₁ => wpAny (model pg w) A (eval o env) (fun ov s₂ => wpAny (model pg w) A (evalPart lower env) (fun vl s₃ => wpAny (model pg w) A (evalPart upper env) (fun vu s₄ =>
      ∃ W W' l b xs ys lo hi, ∃ a c : Nat, ov = .ref l ∧ v = .ref b ∧ Sp w s₀ W s₄ ∧ (b, .list ys) ∈ W ∧ IsPart vl lo ∧ IsPart vu hi ∧ sliceBounds lo hi none xs.length = ((a : Int), (c : Int), 1) ∧ a ≤ c ∧ xs.length ≤ 1000 ∧ ys.length ≤ 1000 ∧ l ≠ b ∧
        Upd W l (.list xs) (.list (xs.take a ++ ys ++ xs.drop c)) W' ∧ ∀ s', Sp w s₀ W' s' → Q .next s') E s₃) E s₂) E s₁) E s)
    (hs : swapsWith val (some (.Subscript o (.Slice lower upper none p) pos')) pos.line env = pure false := by rfl) :
    wpAny (model pg w) A (exec (.Assign [.Subscript o (.Slice lower upper none p) pos'] val pos) env) Q E s := by
  refine wpAny_Assign_Subscript (wpAny_mono h (fun v s₁ h₁ => wpAny_mono h₁ (fun ov s₂ h₂ => wpAny_Slice (wpAny_mono h₂ (fun vl s₃ h₃ => wpAny_mono h₃ (fun vu s₄ h₄ => ?_) fun _ _ e => e) fun _ _ e => e)) fun _ _ e => e) fun _ _ e => e) hs
  obtain ⟨W, W', l, b, xs, ys, lo, hi, a, c, rfl, rfl, S, hb, p1, p2, hbd, hac, hz, hz2, hlb, U, z⟩ := h₄
  rw [evalPart_none]
  refine wpAny_pure ?_
  have S1 := S.push (t := s₄.toks) (o := { cls := .type "slice", data := .fields #[vl, vu, .none] }) (x := .raw fun _ => True) trivial
  exact setSl S1 (.tail _ hb) (Heap.IsSliceOf.new ..) p1 p2 hbd hac hz hz2 hlb (.tail U) fun s' S' => z _ (S'.sub (List.sublist_cons_self _ _))
end
end Mine
end
section
open PySem PySem.W PySem.Calls PyProof.Rows
set_option maxRecDepth 100000
namespace Mine
section
variable {w : World} {s₀ s : Shared} {W W' X R : Led} {A : Around} {E : Value → Shared → Prop} {Q : Value → Shared → Prop} {env : Env} {σ : Dm}
theorem Sp.adds (S : Sp w s₀ W s) {h' : Heap} {t : Tok} (k : ∀ b o, s.heap.get? b = some o → h'.get? b = some o) (hb : s.heap.objs.size ≤ h'.objs.size)
    (hX : ∀ p ∈ X, s.heap.objs.size ≤ p.1 ∧ ∃ o, h'.get? p.1 = some o ∧ p.2.Is w.params o) (hn : (X.map (·.1)).Nodup) : Sp w s₀ (X ++ W) { s with heap := h', toks := t } := by
  have S' := S.grow (t := t) k hb
  refine ⟨S.gd, S.rest, S'.keep, fun p hp => ?_, ?_, fun p hp => ?_, S'.big⟩
  · rcases List.mem_append.mp hp with hp | hp
    · exact (hX p hp).2
    · exact S'.at_ p hp
  · rw [List.map_append, List.nodup_append]
    refine ⟨hn, S.nodup, fun a ha b hb q => ?_⟩
    obtain ⟨p, hp, rfl⟩ := List.mem_map.mp ha
    obtain ⟨p', hp', rfl⟩ := List.mem_map.mp hb
    have h1 := (hX p hp).1
    have h2 := S.lt hp'
    rw [q] at h1
    exact Nat.lt_irrefl _ (Nat.lt_of_lt_of_le h2 h1)
  · rcases List.mem_append.mp hp with hp | hp
    · exact Nat.le_trans S.big (hX p hp).1
    · exact S.out p hp
theorem Sp.drop1 {a : Addr} {x : SO} {p : Addr × SO} (S : Sp w s₀ (X ++ ((a, x) :: R)) s) {h' : Heap} {t : Tok} (hp : p ∈ X ++ R) (hs : Heap.ExtBut a s.heap h') : Sp w s₀ (X ++ R) { s with heap := h', toks := t } := by
  have S1 := S.out1
  have hn := S.nodup
  rw [List.map_append, List.map_cons, List.nodup_append, List.nodup_cons] at hn
  have hne : ∀ p ∈ X ++ R, p.1 ≠ a := fun p hp q => by
    rcases List.mem_append.mp hp with hp | hp
    · exact hn.2.2 _ (List.mem_map_of_mem hp) _ (.head _) q
    · exact hn.2.1.1 (List.mem_map.mpr ⟨p, hp, q⟩)
  have hat : ∀ p ∈ X ++ R, ∃ o, h'.get? p.1 = some o ∧ p.2.Is w.params o := fun p hp => let ⟨o, e, z⟩ := S1.at_ p hp; ⟨o, hs _ _ (hne p hp) e, z⟩
  refine ⟨S.gd, S.rest, fun b o e => hs b o (fun q => ?_) (S.keep b o e), hat, S1.nodup, S1.out, ?_⟩
  · subst q
    exact Nat.lt_irrefl _ (Nat.lt_of_lt_of_le (Heap.lt_size e) (S.out _ (List.mem_append_right _ (.head _))))
  · obtain ⟨o, e, _⟩ := hat p hp
    exact Nat.le_trans (S1.out p hp) (Nat.le_of_lt (Heap.lt_size e))
theorem bindL_eq (ko : Str → Option NameKind) : ∀ (b m : List (Str × Value)), bindL ko b (fun x => m.lookup x) = fun x => ((b.reverse.filter fun p => ko p.1 == some .local) ++ m).lookup x
  | [], m => rfl
  | (n, v) :: r, m => by
    unfold bindL
    by_cases q : ko n = some .local
    · rw [if_pos q]
      have e : (fun y => if y = n then some v else m.lookup y) = fun x => ((n, v) :: m).lookup x := by
        funext y; rw [List.lookup_cons]
        by_cases z : y = n
        · simp [z]
        · rw [if_neg z, beq_eq_false_iff_ne.mpr z]
      rw [e, bindL_eq ko r ((n, v) :: m)]
      funext x
      rw [List.reverse_cons, List.filter_append]
      simp [q]
    · rw [if_neg q, bindL_eq ko r m]
      funext x
      rw [List.reverse_cons, List.filter_append]
      simp [q]
theorem bindC_eq (ko : Str → Option NameKind) : ∀ (b m : List (Str × Value)), bindC ko b (fun x => m.lookup x) = fun x => ((b.reverse.filter fun p => !(ko p.1 == some .local)) ++ m).lookup x
  | [], m => rfl
  | (n, v) :: r, m => by
    unfold bindC
    by_cases q : ko n = some .local
    · rw [if_pos q, bindC_eq ko r m]
      funext x
      rw [List.reverse_cons, List.filter_append]
      simp [q]
    · rw [if_neg q]
      have e : (fun y => if y = n then some v else m.lookup y) = fun x => ((n, v) :: m).lookup x := by
        funext y; rw [List.lookup_cons]
        by_cases z : y = n
        · simp [z]
        · rw [if_neg z, beq_eq_false_iff_ne.mpr z]
      rw [e, bindC_eq ko r ((n, v) :: m)]
      funext x
      rw [List.reverse_cons, List.filter_append]
      have : (!(ko n == some .local)) = true := by simpa using q
      simp [this]
theorem callC1 (m : List (Str × Value)) (c : Str) (cv : Option Value) {Q : Value → Shared → Prop} {name qual : Str} {params : Arguments} {body : List Stmt} {scope : Scope} {dV kV doc pm cdv ct oc : Value} {an od : Option Addr} {osl : Array (Option Value)} {f : Addr} {args : List Value} {binds : List (Str × Value)}
    (S : Sp w s₀ (X ++ R) s) (hA : A.depth < recursionLimit) (ho : (K w.params).lookup f = some ⟨oc, od, .func (fnOf name qual params body scope dV kV doc pm an cdv ct), osl⟩)
    (hcd : codeIn (K w.params) cdv qual = true) (hbind : bindArgs (fnOf name qual params body scope dV kV doc pm an cdv ct) ⟨args, []⟩ = pure binds)
    (hm : (binds.reverse.filter fun p => scope.names.lookup p.1 == some .local) = m) (hcv : (binds.reverse.filter fun p => !(scope.names.lookup p.1 == some .local)).lookup c = cv)
    (h : ∀ L s', Sp w s₀ (X ++ ((L, .ns m) :: (L + 1, .cell cv) :: R)) s' → wpAny (model pg w) (A.deeper (envOfC qual scope L f cdv)) (execs body (envOfC qual scope L f cdv)) (fun fl s'' => Q (retv fl) s'') (fun _ _ => False) s')
    (hkind : ∀ n, (binds.all fun x => scope.names.lookup x.1 == some .local || (scope.names.lookup x.1 == some .cell && ((cellsFrom n scope.names []).lookup x.1).isSome)) = true := by intro n; rfl)
    (hcl : ∀ n, cellsFrom n scope.names [] = [(c, n)] := by intro n; rfl)
    (hco : scope.isCoroutine = false := by rfl) (hgen : scope.isGenerator = false := by rfl) (hk : scope.kind = .function := by rfl) :
    wpAny (model pg w) A (call (.ref f) args) Q E s := by
  refine wpAny_call (codeAny_call_cells (fd := fnOf name qual params body scope dV kV doc pm an cdv ct) hA (S.K _ _ ho) rfl S.nolimit (codeRec_of S.K hcd) rfl hbind rfl (fun x hx => ?_) (fun s1 x => ?_) hco hgen hk)
  · have := List.all_eq_true.mp (hkind (s.heap.objs.size + 1)) x hx
    simpa using this
  · have hns := x.toInCall.ns
    have hc := x.cell c (s.heap.objs.size + 1) (by show (cellsFrom (s.heap.objs.size + 1) scope.names []).lookup c = _; rw [hcl]; simp)
    rw [show (fun _ => none : Str → Option Value) = (fun x => List.lookup x []) from rfl] at hns hc
    rw [bindL_eq, List.append_nil] at hns
    rw [bindC_eq, List.append_nil] at hc
    replace hns : s1.heap.Ns s.heap.objs.size fun x => m.lookup x := by rw [← hm]; exact hns
    replace hc : s1.heap.IsCell (s.heap.objs.size + 1) cv := by rw [← hcv]; exact hc
    obtain ⟨h1, tk, e⟩ := x.toInCall.same
    obtain ⟨o, es, ep, o1, o2, o3, o4⟩ := hns
    obtain ⟨oc, c1, c2⟩ := hc
    subst e
    have S1 := S.adds (X := [(s.heap.objs.size, .ns m), (s.heap.objs.size + 1, .cell cv)]) (t := tk) x.toInCall.keep (Nat.le_of_lt (Heap.lt_size o1)) (fun p hp => by
      rcases List.mem_cons.mp hp with rfl | hp
      · exact ⟨Nat.le_refl _, o, o1, es, ep, o2, o3, o4⟩
      · rcases List.mem_cons.mp hp with rfl | hp
        · exact ⟨Nat.le_succ _, oc, c1, c2⟩
        · cases hp) (by simp)
    exact wpAny_mono (h _ _ (S1.perm ((List.perm_append_comm (l₁ := [_, _]) (l₂ := X)).append_right R |>.trans (by rw [List.append_assoc]; exact .refl _)))) (fun _ _ z => z) fun _ _ z => z.elim
end
end Mine
end
section
open PySem PySem.W PySem.Calls PyProof.Rows
set_option maxRecDepth 100000
namespace Mine
section
variable {w : World} {s₀ s : Shared} {W W' X R : Led} {A : Around} {E : Value → Shared → Prop} {Q : Value → Shared → Prop} {env : Env} {σ : Dm}
theorem callAppend {l : Addr} {xs : List Value} {v : Value} (S : Sp w s₀ W s) (U : Upd W l (.list xs) (.list (xs ++ [er v])) W') (hz : xs.length ≤ 1000) (h : ∀ s', Sp w s₀ W' s' → Q .none s') : wpAny (model pg w) A (call (.builtin "list.append") [.ref l, v]) Q E s := by
  obtain ⟨vs, n, e1, e2⟩ := S.list U.mem
  have hl : s.heap.IsList l vs.toArray := ⟨_, e1, rfl, n, rfl⟩
  have l1 : vs.length = xs.length := by rw [← e2, List.length_map]
  refine wpAny_call_entry slot_list_append hl.typeIs entry_list_append ?_ (args_list_append _ _)
  show wpAny _ _ (updateSeq l (·.push v) >>= fun _ => ret .none) _ _ s
  refine wpAny_bind (wpAny_updateSeq e1 rfl (wpAny_pure ⟨.none, rfl, h _ (S.chList U e1 ⟨vs ++ [v], by simp, by simp [e2]⟩)⟩) (by rw [List.size_toArray, l1]; exact fit hz) (by rw [Array.size_push, List.size_toArray, l1]; have := fit hz; lia))
noncomputable def itP (l : Addr) (i : Nat) (o : Obj) : Prop := o.cls = .type "list_iterator" ∧ o.data = .fields #[.ref l, .int i 0]
theorem iterL {l : Addr} {xs : List Value} (S : Sp w s₀ W s) (hl : (l, .list xs) ∈ W) (h : ∀ I s', Sp w s₀ ((I, .raw (itP l 0)) :: W) s' → Q (.ref I) s') : wpAny (model pg w) A (pyIter (.ref l)) Q E s := by
  obtain ⟨vs, h1, h2⟩ := S.isList hl
  exact wpAny_pyIter_list h1 (h _ _ (S.push (t := s.toks) (o := { cls := .type "list_iterator", data := .fields #[.ref l, .int 0 0] }) (x := .raw (itP l 0)) ⟨rfl, rfl⟩))
theorem isIter {I l : Addr} {i : Nat} (S : Sp w s₀ W s) (h : (I, .raw (itP l i)) ∈ W) : s.heap.IsListIter I l i := let ⟨o, e, z⟩ := S.at_ _ h; ⟨o, e, z⟩
theorem nextL {I l : Addr} {i : Nat} {xs : List Value} {Q : Option Value → Shared → Prop} (S : Sp w s₀ (X ++ ((I, .raw (itP l i)) :: R)) s) (hh : A.handled = none) (hl : (l, .list xs) ∈ X ++ R)
    (h1 : ∀ v s', xs[i]? = some (er v) → Sp w s₀ (X ++ ((I, .raw (itP l (i + 1))) :: R)) s' → Q (some v) s') (h2 : xs[i]? = none → ∀ s', Sp w s₀ (X ++ R) s' → Q none s') : wpAny (model pg w) A (pyNext (.ref I)) Q E s := by
  have hI := isIter S (List.mem_append_right _ (.head _))
  have hl' : (l, SO.list xs) ∈ X ++ ((I, .raw (itP l i)) :: R) := by
    rcases List.mem_append.mp hl with h | h
    · exact List.mem_append_left _ h
    · exact List.mem_append_right _ (.tail _ h)
  obtain ⟨vs, e1, e2⟩ := S.isList hl'
  cases q : vs[i]? with
  | none =>
    refine wpAny_pyNext_list_end hh hI e1 (by simpa using q) fun h' hs => h2 ?_ _ (S.drop1 hl hs)
    rw [← e2, List.getElem?_map, q]; rfl
  | some v =>
    refine wpAny_pyNext_list_item hI e1 (x := v) (by simpa using q) fun h' hi hs => ?_
    obtain ⟨o, o1, o2⟩ := hi
    exact h1 v _ (by rw [← e2, List.getElem?_map, q]; rfl) (S.change' (Upd.right .head) hs o1 o2)
theorem asgN {x : Str} {px : Pos} {v : Value} {L : Addr} {m : List (Str × Value)} {Q : Unit → Shared → Prop} (S : Sp w s₀ W s) (U : Upd W L (.ns m) (.ns (put m x v)) W') (h : ∀ s', Sp w s₀ W' s' → Q () s')
    (he : env.locals = L := by rfl) (hk : env.scope.kind = .function := by rfl) (hl : env.kindOf x = some .local := by rfl) : wpAny (model pg w) A (assign (.Name x px) env v) Q E s :=
  wpAny_assign_Name (stL S U h he hk hl)
structure Itr (w : World) (s₀ : Shared) (src : Led → Prop) (itO : Nat → SO) (vals : List Value) : Prop where
  next : ∀ {A : Around} {E : Value → Shared → Prop} {Q : Option Value → Shared → Prop} {I : Addr} {i : Nat} {X R : Led} {s : Shared}, A.handled = none → Sp w s₀ (X ++ ((I, itO i) :: R)) s → src (X ++ R) → i ≤ vals.length →
    (∀ v s', vals[i]? = some (er v) → Sp w s₀ (X ++ ((I, itO (i + 1)) :: R)) s' → Q (some v) s') → (vals[i]? = none → ∀ s', Sp w s₀ (X ++ R) s' → Q none s') → wpAny (model pg w) A (pyNext (.ref I)) Q E s
  self : ∀ {A : Around} {E : Value → Shared → Prop} {Q : Value → Shared → Prop} {I : Addr} {i : Nat} {W : Led} {s : Shared}, Sp w s₀ W s → (I, itO i) ∈ W → Q (.ref I) s → wpAny (model pg w) A (pyIter (.ref I)) Q E s
  mono : ∀ {W W' : Led}, src W → (∀ p ∈ W, p ∈ W') → src W'
theorem Itr.list {l : Addr} {xs : List Value} : Itr w s₀ (fun W => (l, .list xs) ∈ W) (fun i => .raw (itP l i)) xs :=
  ⟨fun hh S hl _ h1 h2 => nextL S hh hl h1 h2, fun S h hQ => wpAny_pyIter_listiter (isIter S h) hQ, fun h hs => hs _ h⟩
noncomputable def tipP (l : Addr) (i : Nat) (o : Obj) : Prop := o.cls = .type "tuple_iterator" ∧ o.data = .fields #[.ref l, .int i 0]
theorem iterT {l : Addr} {xs : List Value} (S : Sp w s₀ W s) (hl : (l, .tup xs) ∈ W) (h : ∀ I s', Sp w s₀ ((I, .raw (tipP l 0)) :: W) s' → Q (.ref I) s') : wpAny (model pg w) A (pyIter (.ref l)) Q E s := by
  obtain ⟨vs, n, h1, h2⟩ := S.tup hl
  exact wpAny_pyIter_tuple (items := vs.toArray) ⟨_, h1, rfl, n, rfl⟩ (h _ _ (S.push (t := s.toks) (o := { cls := .type "tuple_iterator", data := .fields #[.ref l, .int 0 0] }) (x := .raw (tipP l 0)) ⟨rfl, rfl⟩))
theorem Itr.tup {l : Addr} {xs : List Value} : Itr w s₀ (fun W => (l, .tup xs) ∈ W) (fun i => .raw (tipP l i)) xs := by
  refine ⟨fun {A E Q I i X R s} hh S hl _ h1 h2 => ?_, fun S h hQ => ?_, fun h hs => hs _ h⟩
  · have hI : s.heap.IsTupleIter I l i := let ⟨o, e, z⟩ := S.at_ _ (List.mem_append_right _ (.head _)); ⟨o, e, z⟩
    have hl' : (l, SO.tup xs) ∈ X ++ ((I, .raw (tipP l i)) :: R) := by
      rcases List.mem_append.mp hl with h | h
      · exact List.mem_append_left _ h
      · exact List.mem_append_right _ (.tail _ h)
    obtain ⟨vs, n, e1, e2⟩ := S.tup hl'
    have e3 : s.heap.IsTuple l vs.toArray := ⟨_, e1, rfl, n, rfl⟩
    cases q : vs[i]? with
    | none =>
      refine wpAny_pyNext_tuple_end hh hI e3 (by simpa using q) fun h' hs => h2 ?_ _ (S.drop1 hl hs)
      rw [← e2, List.getElem?_map, q]; rfl
    | some v =>
      refine wpAny_pyNext_tuple_item hI e3 (x := v) (by simpa using q) fun h' hi hs => ?_
      obtain ⟨o, o1, o2⟩ := hi
      exact h1 v _ (by rw [← e2, List.getElem?_map, q]; rfl) (S.change' (Upd.right .head) hs o1 o2)
  · exact wpAny_pyIter_tupleiter (let ⟨o, e, z⟩ := S.at_ _ h; ⟨o, e, z⟩) hQ
noncomputable def ripP (a n i : Nat) (o : Obj) : Prop := o = { cls := .type "range_iterator", dict := none, data := .fields #[rawInt (a + i : Nat), rawInt ((n : Int) - i), rawInt 1], slots := #[] }
theorem ripA {h : Heap} {I : Addr} {a n i : Nat} (x : ∃ o, h.get? I = some o ∧ ripP a n i o) : IsRangeIter h I (a + i : Nat) ((n : Int) - i) 1 := by
  obtain ⟨o, e, z⟩ := x
  unfold ripP at z
  rw [z] at e; exact e
noncomputable def rgV (a n : Nat) : List Value := (List.range n).map fun i => .int (a + i : Nat) 0
theorem Itr.range {a n : Nat} : Itr w s₀ (fun W => W ≠ []) (fun i => .raw (ripP a n i)) (rgV a n) := by
  refine ⟨fun {A E Q I i X R s} hh S hl hi h1 h2 => ?_, fun S h hQ => ?_, fun h hs e => ?_⟩
  · have hI : IsRangeIter s.heap I (a + i : Nat) ((n : Int) - i) 1 := ripA (let ⟨o, e, z⟩ := S.at_ _ (List.mem_append_right _ (.head _)); ⟨o, e, z⟩)
    have hn : (rgV a n).length = n := by unfold rgV; simp
    rw [hn] at hi
    by_cases q : i < n
    · refine wpAny_pyNext_range_item hI (by lia) fun h' hi' hs => h1 _ _ ?_ ?_
      · unfold rgV; rw [List.getElem?_map, List.getElem?_range q]; rfl
      · refine S.change' (Upd.right .head) hs hi' ?_
        show _ = _
        have e1 : ((a + i : Nat) : Int) + 1 = ((a + (i + 1) : Nat) : Int) := by push_cast; lia
        have e2 : (n : Int) - i - 1 = (n : Int) - (i + 1 : Nat) := by push_cast; lia
        rw [e1, e2]
    · obtain ⟨p, hp⟩ := List.exists_mem_of_ne_nil _ hl
      exact wpAny_pyNext_range_end hh hI (by lia) fun h' hs => h2 (by rw [List.getElem?_eq_none_iff, hn]; lia) _ (S.drop1 hp hs)
  · exact wpAny_pyIter_rangeiter (ripA (let ⟨o, e, z⟩ := S.at_ _ h; ⟨o, e, z⟩)) hQ
  · obtain ⟨p, hp⟩ := List.exists_mem_of_ne_nil _ h
    rw [e] at hs
    exact absurd (hs p hp) (List.not_mem_nil)
inductive CompZ (w : World) (s₀ : Shared) (A : Around) (env : Env) (elt : Expr) (ifs : List Expr) (x : Str) (scope : Scope) (cl : List (Str × Addr)) (Q : Value → Shared → Prop) (P : Nat → List Value → Led → Led → Prop) (it : Value) (s₂ : Shared) : Prop
  | mk (I : Addr) (src : Led → Prop) (itO : Nat → SO) (vals : List Value) (X R : Led) (e : it = .ref I) (IT : Itr w s₀ src itO vals) (S : Sp w s₀ ((I, itO 0) :: (X ++ R)) s₂) (hP : P 0 [] X R) (hz : vals.length ≤ 900) (hl : ∀ i acc X R, P i acc X R → src (X ++ R) ∧ acc.length ≤ i)
      (turn : ∀ C D I i acc X R v m s E, P i acc X R → vals[i]? = some (er v) → m.lookup x = some v → Sp w s₀ (X ++ ((C, .ns m) :: (D, .list acc) :: I :: R)) s →
        wpAny (model pg w) A (forIn ifs true fun c r => if r = true then do let ok ← isTrue c (compEnvC scope cl C env) (eval c (compEnvC scope cl C env)); pure (ForInStep.yield ok) else pure (ForInStep.yield r)) (fun ok s₃ =>
          if ok = true then wpAny (model pg w) A (eval elt (compEnvC scope cl C env)) (fun y s₄ => ∃ X' R', P (i + 1) (acc ++ [er y]) X' R' ∧ Sp w s₀ (X' ++ ((C, .ns m) :: (D, .list acc) :: I :: R')) s₄) E s₃
          else ∃ X' R', P (i + 1) acc X' R' ∧ Sp w s₀ (X' ++ ((C, .ns m) :: (D, .list acc) :: I :: R')) s₃) E s)
      (fin : ∀ acc X R D s, P vals.length acc X R → Sp w s₀ (X ++ ((D, .list acc) :: R)) s → Q (.ref D) s) : CompZ w s₀ A env elt ifs x scope cl Q P it s₂
inductive CompRZ (w : World) (s₀ : Shared) (A : Around) (env : Env) (elt : Expr) (ifs : List Expr) (x : Str) (scope : Scope) (cl : List (Str × Addr)) (Q : Value → Shared → Prop) (P : Nat → List Value → Led → Led → Prop) (xv : Value) (s₁ : Shared) : Prop
  | mk (l : Addr) (vals : List Value) (X R : Led) (e : xv = .ref l) (S : Sp w s₀ (X ++ R) s₁) (hP : P 0 [] X R) (hz : vals.length ≤ 900) (hl : ∀ i acc X R, P i acc X R → (l, .list vals) ∈ X ++ R ∧ acc.length ≤ i)
      (turn : ∀ C D I i acc X R v m s E, P i acc X R → vals[i]? = some (er v) → m.lookup x = some v → Sp w s₀ (X ++ ((C, .ns m) :: (D, .list acc) :: I :: R)) s →
        wpAny (model pg w) A (forIn ifs true fun c r => if r = true then do let ok ← isTrue c (compEnvC scope cl C env) (eval c (compEnvC scope cl C env)); pure (ForInStep.yield ok) else pure (ForInStep.yield r)) (fun ok s₃ =>
          if ok = true then wpAny (model pg w) A (eval elt (compEnvC scope cl C env)) (fun y s₄ => ∃ X' R', P (i + 1) (acc ++ [er y]) X' R' ∧ Sp w s₀ (X' ++ ((C, .ns m) :: (D, .list acc) :: I :: R')) s₄) E s₃
          else ∃ X' R', P (i + 1) acc X' R' ∧ Sp w s₀ (X' ++ ((C, .ns m) :: (D, .list acc) :: I :: R')) s₃) E s)
      (fin : ∀ acc X R D s, P vals.length acc X R → Sp w s₀ (X ++ ((D, .list acc) :: R)) s → Q (.ref D) s) : CompRZ w s₀ A env elt ifs x scope cl Q P xv s₁
inductive ForZ (w : World) (s₀ : Shared) (A : Around) (env : Env) (x : Str) (L : Addr) (body : List Stmt) (Q : Flow → Shared → Prop) (P : Nat → Led → List (Str × Value) → Led → Prop) (it : Value) (s₂ : Shared) : Prop
  | mk (I : Addr) (src : Led → Prop) (itO : Nat → SO) (vals : List Value) (X : Led) (m : List (Str × Value)) (R : Led) (e : it = .ref I) (IT : Itr w s₀ src itO vals) (S : Sp w s₀ ((I, itO 0) :: (X ++ ((L, .ns m) :: R))) s₂) (hP : P 0 X m R) (hsrc : ∀ i X m R, P i X m R → src (X ++ ((L, .ns m) :: R)))
      (turn : ∀ I i X R v m s E, P i X m R → vals[i]? = some (er v) → Sp w s₀ (X ++ ((L, .ns (put m x v)) :: I :: R)) s →
        wpAny (model pg w) A (execs body env) (fun f s₃ => (f = .next ∨ f = .cont) ∧ ∃ X' m' R', P (i + 1) X' m' R' ∧ Sp w s₀ (X' ++ ((L, .ns m') :: I :: R')) s₃) E s)
      (fin : ∀ X m R s, P vals.length X m R → Sp w s₀ (X ++ ((L, .ns m) :: R)) s → Q .next s) : ForZ w s₀ A env x L body Q P it s₂
theorem compP {elt iter : Expr} {x : Str} {px : Pos} {ifs : List Expr} {scope : Scope} {cl : List (Str × Addr)} {pos : Pos} 
    (hclos : closureFor scope env = pure cl) (hcell : ∀ y ∈ scope.names, y.2 ≠ .cell) (hkind : scope.kind = .function) (hnames : ∀ y ∈ scope.names, y.2 = .local → scope.names.lookup y.1 = some .local) (hx : scope.names.lookup x = some .local) (hh : A.handled = none)
    (h : wpAny (model pg w) A (eval iter env) (fun xv s₁ => wpAny (model pg w) A (pyIter xv) (fun it s₂ => ∃ P, CompZ w s₀ A env elt ifs x scope cl Q P it s₂) E s₁) E s)
    (hs : ∀ x, foldedSetIterable iter env x = pure x := by intro _; rfl) :
    wpAny (model pg w) A (eval (.ListComp elt [⟨.Name x px, iter, ifs, 0⟩] scope pos) env) Q E s := by
  rw [eval_ListComp]
  refine wpAny_comprehension_free (use := none) rfl hs hclos hkind hnames (wpAny_mono h (fun xv s₁ z => wpAny_mono z (fun it s₂ z => ?_) fun _ _ e => e) fun _ _ e => e)
  obtain ⟨P, I, src, itO, xs, X, R, rfl, IT, S2, hP, hz, hl, turn, fin⟩ := z
  refine newL S2 fun D s3 S3 => ?_
  refine wpAny_newFunctionEnv hcell (by intro y hy; cases hy) (fun h' hn hs' => ?_) hkind
  obtain ⟨o, es, ep, o1, o2, o3, o4⟩ := hn
  have keep : ∀ b o, s3.heap.get? b = some o → h'.get? b = some o := fun b o e => (hs'.2 b (Nat.ne_of_lt (Heap.lt_size e))).trans (Heap.get?_push_of_some _ e)
  have S4 := S3.add (x := .ns []) (t := s3.toks + ([] : List (Str × Value)).length) keep o1 ⟨es, ep, o2, o3, o4⟩ (Nat.le_refl _)
  have S5 := S4.perm (W' := X ++ ((s3.heap.objs.size, .ns []) :: (D, .list []) :: (I, itO 0) :: R)) ((List.perm_append_comm (l₁ := [_, _, _]) (l₂ := X)).append_right R |>.trans (by rw [List.append_assoc]; exact .refl _))
  generalize hC : s3.heap.objs.size = C at S5 ⊢
  generalize hs4 : ({ s3 with heap := h', toks := s3.toks + ([] : List (Str × Value)).length } : Shared) = s4 at S5 ⊢
  have loop : codeAny (model pg w) A (.compLoop (.ListComp elt [⟨.Name x px, iter, ifs, 0⟩] scope pos) 0 (.ref I) (.ref D) (compEnvC scope cl C env)) (compPost (model pg w) A E none Q (.ref D) C) s4 := by
    refine codeAny_compLoop_tests (fun n s => ∃ i acc X R m, n = xs.length - i ∧ i ≤ xs.length ∧ P i acc X R ∧ Sp w s₀ (X ++ ((C, .ns m) :: (D, .list acc) :: (I, itO i) :: R)) s) ?_ xs.length ⟨0, [], X, R, [], by lia, by lia, hP, S5⟩
    rintro n s ⟨i, acc, X, R, m, hn, hi, hP, S⟩
    have hl' : src ((X ++ [(C, .ns m), (D, .list acc)]) ++ R) := IT.mono (hl _ _ _ _ hP).1 fun p hp => by
      rcases List.mem_append.mp hp with h | h
      · exact List.mem_append_left _ (List.mem_append_left _ h)
      · exact List.mem_append_right _ h
    refine IT.next (X := X ++ [(C, .ns m), (D, .list acc)]) (R := R) (i := i) hh (by rw [List.append_assoc]; exact S) hl' hi (fun v s' hv S' => ?_) fun hv s' S' => ?_
    · rw [List.append_assoc] at S'
      have hlt := (List.getElem?_eq_some_iff.mp hv).1
      refine asgN S' (Upd.right .head) (fun s2 S2 => ?_) rfl hkind (lookup_relabel_local hx)
      refine wpAny_mono (turn C D _ i acc X R v _ s2 _ hP hv (by rw [lookup_put, if_pos rfl]) S2) (fun ok s3 z => ?_) fun _ _ e => e
      cases ok with
      | false =>
        rw [if_neg Bool.false_ne_true] at z ⊢
        obtain ⟨X', R', hP', S3⟩ := z
        exact ⟨xs.length - (i + 1), by lia, i + 1, acc, X', R', _, rfl, hlt, hP', S3⟩
      | true =>
        rw [if_pos rfl] at z ⊢
        refine wpAny_mono z (fun y s4 z => ?_) fun _ _ e => e
        obtain ⟨X', R', hP', S4⟩ := z
        have := (hl _ _ _ _ hP).2
        refine callAppend S4 (Upd.right (.tail .head)) (by lia) fun s5 S5 => ?_
        exact ⟨xs.length - (i + 1), by lia, i + 1, _, X', R', _, rfl, hlt, hP', S5⟩
    · rw [List.append_assoc] at S'
      have he : i = xs.length := by
        have := List.getElem?_eq_none_iff.mp hv
        lia
      subst he
      refine ⟨_, S'.ns (List.mem_append_right _ (.head _)), fun h' hs => fin acc X R D _ hP (Sp.drop1 (p := (D, .list acc)) (t := s'.toks) S' (List.mem_append_right _ (.head _)) fun b o q e => (hs.2 b q).trans e)⟩
  exact codeAny_compStart_list loop (IT.self S5 (List.mem_append_right _ (.tail _ (.tail _ (.head _)))) loop)
theorem compI {elt iter : Expr} {x : Str} {px : Pos} {ifs : List Expr} {scope : Scope} {cl : List (Str × Addr)} {pos : Pos} (P : Nat → List Value → Led → Led → Prop)
    (hclos : closureFor scope env = pure cl) (hcell : ∀ y ∈ scope.names, y.2 ≠ .cell) (hkind : scope.kind = .function) (hnames : ∀ y ∈ scope.names, y.2 = .local → scope.names.lookup y.1 = some .local) (hx : scope.names.lookup x = some .local) (hh : A.handled = none)
    (h : wpAny (model pg w) A (eval iter env) (fun xv s₁ => wpAny (model pg w) A (pyIter xv) (fun it s₂ => CompZ w s₀ A env elt ifs x scope cl Q P it s₂) E s₁) E s)
    (hs : ∀ x, foldedSetIterable iter env x = pure x := by intro _; rfl) :
    wpAny (model pg w) A (eval (.ListComp elt [⟨.Name x px, iter, ifs, 0⟩] scope pos) env) Q E s :=
  compP (s₀ := s₀) hclos hcell hkind hnames hx hh (wpAny_mono h (fun _ _ z => wpAny_mono z (fun _ _ z => ⟨P, z⟩) fun _ _ e => e) fun _ _ e => e) hs
theorem compR {elt iter : Expr} {x : Str} {px : Pos} {ifs : List Expr} {scope : Scope} {cl : List (Str × Addr)} {pos : Pos} (P : Nat → List Value → Led → Led → Prop)
    (hclos : closureFor scope env = pure cl) (hcell : ∀ y ∈ scope.names, y.2 ≠ .cell) (hkind : scope.kind = .function) (hnames : ∀ y ∈ scope.names, y.2 = .local → scope.names.lookup y.1 = some .local) (hx : scope.names.lookup x = some .local) (hh : A.handled = none)
    (h : wpAny (model pg w) A (eval iter env) (fun xv s₁ => CompRZ w s₀ A env elt ifs x scope cl Q P xv s₁) E s)
    (hs : ∀ x, foldedSetIterable iter env x = pure x := by intro _; rfl) :
    wpAny (model pg w) A (eval (.ListComp elt [⟨.Name x px, iter, ifs, 0⟩] scope pos) env) Q E s := by
  refine compI (s₀ := s₀) P hclos hcell hkind hnames hx hh (wpAny_mono h (fun xv s₁ z => ?_) fun _ _ e => e) hs
  obtain ⟨l, xs, X, R, rfl, S, hP, hz, hl, turn, fin⟩ := z
  exact iterL S (hl _ _ _ _ hP).1 fun I s2 S2 => ⟨I, _, _, xs, X, R, rfl, Itr.list, S2, hP, hz, hl, turn, fin⟩
theorem forP {iter : Expr} {x : Str} {px pos : Pos} {body : List Stmt} {L : Addr} {Q : Flow → Shared → Prop} (_ : Sp w s₀ W s) (hh : A.handled = none)
    (h : wpAny (model pg w) A (eval iter env) (fun xv s₁ => wpAny (model pg w) A (pyIter xv) (fun it s₂ => ∃ P, ForZ w s₀ A env x L body Q P it s₂) E s₁) E s)
    (he : env.locals = L := by rfl) (hk : env.scope.kind = .function := by rfl) (hl : env.kindOf x = some .local := by rfl) (hs : ∀ x, foldedSetIterable iter env x = pure x := by intro _; rfl) :
    wpAny (model pg w) A (exec (.For (.Name x px) iter body [] pos) env) Q E s := by
  refine wpAny_For (wpAny_mono h (fun xv s₁ z => wpAny_mono z (fun it s₂ z => ?_) fun _ _ e => e) fun _ _ e => e) hs
  obtain ⟨P, I, src, itO, xs, X, m, R, rfl, IT, S2, hP, hsrc, turn, fin⟩ := z
  refine codeAny_forLoop (fun n s => ∃ i X R m, n = xs.length - i ∧ i ≤ xs.length ∧ P i X m R ∧ Sp w s₀ (X ++ ((L, .ns m) :: (I, itO i) :: R)) s) ?_ xs.length ⟨0, X, R, m, by lia, by lia, hP, S2.perm ((List.perm_middle (l₁ := X ++ [(L, .ns m)])).symm |>.trans (by rw [List.append_assoc]; exact .refl _) |> fun z => by rw [List.append_assoc] at z; exact z)⟩
  rintro n s ⟨i, X, R, m, hn, hi, hP, S⟩
  refine IT.next (X := X ++ [(L, .ns m)]) (R := R) (i := i) hh (by rw [List.append_assoc]; exact S) (by rw [List.append_assoc]; exact hsrc _ _ _ _ hP) hi (fun v s' hv S' => ?_) fun hv s' S' => ?_
  · rw [List.append_assoc] at S'
    have hlt := (List.getElem?_eq_some_iff.mp hv).1
    refine asgN S' (Upd.right .head) (fun s2 S2 => ?_) he hk hl
    refine wpAny_mono (turn _ i X R v m s2 _ hP hv S2) (fun f s3 z => ?_) fun _ _ e => e
    obtain ⟨hf, X', m', R', hP', S3⟩ := z
    have fin : ∃ k, k < n ∧ ∃ i X R m, k = xs.length - i ∧ i ≤ xs.length ∧ P i X m R ∧ Sp w s₀ (X ++ ((L, .ns m) :: (I, itO i) :: R)) s3 := ⟨xs.length - (i + 1), by lia, i + 1, X', R', m', rfl, hlt, hP', S3⟩
    rcases hf with rfl | rfl <;> exact fin
  · rw [List.append_assoc] at S'
    have he : i = xs.length := by
      have := List.getElem?_eq_none_iff.mp hv
      lia
    subst he
    exact wpAny_execs_nil (fin X m R _ hP S')
theorem forI {iter : Expr} {x : Str} {px pos : Pos} {body : List Stmt} {L : Addr} {Q : Flow → Shared → Prop} (P : Nat → Led → List (Str × Value) → Led → Prop) (S : Sp w s₀ W s) (hh : A.handled = none)
    (h : wpAny (model pg w) A (eval iter env) (fun xv s₁ => wpAny (model pg w) A (pyIter xv) (fun it s₂ => ForZ w s₀ A env x L body Q P it s₂) E s₁) E s)
    (he : env.locals = L := by rfl) (hk : env.scope.kind = .function := by rfl) (hl : env.kindOf x = some .local := by rfl) (hs : ∀ x, foldedSetIterable iter env x = pure x := by intro _; rfl) :
    wpAny (model pg w) A (exec (.For (.Name x px) iter body [] pos) env) Q E s :=
  forP S hh (wpAny_mono h (fun _ _ z => wpAny_mono z (fun _ _ z => ⟨P, z⟩) fun _ _ e => e) fun _ _ e => e) he hk hl hs
end
end Mine
end
section
open PySem PySem.W PySem.Calls PyProof.Rows
set_option maxRecDepth 100000
namespace Mine
noncomputable def Sc.setc (n : Int) (c : Sc) : Sc := { c with cnt := n }
noncomputable def Dm.At (σ : Dm) (t : It) (c : Sc) : Prop := σ.scs[t.i]? = some c ∧ c.a = t.a
noncomputable def Dm.vl (σ : Dm) : Option It → DV
  | none => .none
  | some t => ((σ.scs[t.i]?).map (·.val)).getD .none
noncomputable def Dm.dropd (σ : Dm) (t : It) : Dm := { σ with scs := σ.scs.modify t.i (Sc.setc 0), zero := σ.zero ++ [t] }
noncomputable def Dm.drop1 (σ : Dm) : Option It → Dm
  | none => σ
  | some t => σ.dropd t
noncomputable def Dm.drops (σ : Dm) (ms : List (Option It)) : Dm := ms.foldl Dm.drop1 σ
noncomputable def Dm.live (σ : Dm) (ms : List (Option It)) : Prop := ∀ t, some t ∈ ms → ∃ c, σ.At t c ∧ c.cnt = 1
noncomputable def ixs (ms : List (Option It)) : List Nat := ms.filterMap (Option.map It.i)
noncomputable def Dm.newc (σ : Dm) (cs : List Sc) : Dm := { σ with last := σ.last + cs.length, scs := σ.scs ++ cs }
noncomputable def newOk (n : Int) : List DV → List Sc → Prop
  | [], [] => True
  | x :: xs, c :: cs => c.num = n + 1 ∧ c.cnt = 1 ∧ c.freed = false ∧ c.val = x ∧ c.wk = c.wl ∧ newOk (n + 1) xs cs
  | _, _ => False
theorem modify_some {α : Type} {f : α → α} : ∀ {l : List α} {i : Nat} {x : α}, l[i]? = some x → l.modify i f = l.set i (f x)
  | y :: l, 0, x, h => by cases h; rfl
  | y :: l, i + 1, x, h => by
    have h' : l[i]? = some x := by simpa using h
    rw [List.modify_succ_cons, List.set_cons_succ, modify_some h']
section
variable {w : World} {s₀ s : Shared} {W W' X R : Led} {A : Around} {E : Value → Shared → Prop} {Q : Value → Shared → Prop} {env : Env} {σ : Dm}
theorem addS {c : Sc} {σ : Dm} : (c.objs ++ (objs σ ++ R)).Perm (objs { σ with scs := σ.scs ++ [c] } ++ R) := by
  have e : objs { σ with scs := σ.scs ++ [c] } = objs σ ++ c.objs := by
    show fixed σ ++ (σ.refs.flatMap (Rf.objs σ.A) ++ (σ.scs ++ [c]).flatMap Sc.objs) = fixed σ ++ (σ.refs.flatMap (Rf.objs σ.A) ++ σ.scs.flatMap Sc.objs) ++ c.objs
    rw [List.flatMap_append]
    simp
  rw [e, ← List.append_assoc]
  exact List.perm_append_comm.append_right R
inductive AsgZ (w : World) (s₀ : Shared) (env : Env) (x : Str) (v : Value) (Q : Flow → Shared → Prop) (s : Shared) : Prop
  | mk (W W' : Led) (L : Addr) (m : List (Str × Value)) (S : Sp w s₀ W s) (U : Upd W L (.ns m) (.ns (put m x v)) W') (e : env.locals = L) (h : ∀ s', Sp w s₀ W' s' → Q .next s') : AsgZ w s₀ env x v Q s
theorem asgL {x : Str} {px pos : Pos} {val : Expr} {Q : Flow → Shared → Prop} (_ : Sp w s₀ W s) (h : wpAny (model pg w) A (eval val env) (fun v s₁ => AsgZ w s₀ env x v Q s₁) E s)
    (hk : env.scope.kind = .function := by rfl) (hl : env.kindOf x = some .local := by rfl) (hs : swapsWith val (some (.Name x px)) pos.line env = pure false := by rfl) : wpAny (model pg w) A (exec (.Assign [.Name x px] val pos) env) Q E s :=
  wpAny_Assign_Name (wpAny_mono h (fun _ _ z => by
    obtain ⟨W, W', L, m, S, U, he, z⟩ := z
    exact stL S U z he hk hl) fun _ _ e => e) hs
theorem fresh_spec {A₀ : Ad} {x : DV} {v : Value} (S : Sp w s₀ (objs σ ++ R) s) (hA : Rm A 6) (hv : er v = x.val) (ok : x.ok σ)
    (h : ∀ c s', newOk σ.last [x] [c] → Sp w s₀ (objs ((σ.take x).newc [c]) ++ R) s' → Q (.ref c.a) s') (eA₀ : σ.A = A₀ := by rfl) : wpAny (model pg w) A (call (.ref 520) [.ref A₀.ctr, v]) Q E s := by
  subst eA₀
  refine callS [(k "value", v), (k "self", .ref σ.A.ctr)] S hA.lt rfl (by kernel_rfl) (BindsTo.of_eq rfl) (fun L s1 S1 => ?_)
  have eA : (σ.take x).A = σ.A := by cases x with
    | rf f => unfold Dm.take Dm.addc; dsimp only; split <;> rfl
    | _ => rfl
  have el : (σ.take x).last = σ.last := by cases x with
    | rf f => unfold Dm.take Dm.addc; dsimp only; split <;> rfl
    | _ => rfl
  refine wpAny_execs_cons (asgL S1 (callM (Attribute_any_ (nmL S1 (mR (.head _)) rfl ?_))))
  refine getAr S1 (mF (i := 3) rfl) (mF (i := 4) rfl) rfl (by kernel_rfl) fun s2 S2 => ?_
  refine mtI (f := 187) S2 (mF (i := 7) rfl) (mF (i := 8) rfl) rfl (by kernel_rfl) (df1 S2 (by kernel_rfl) ?_)
  refine callM (nmL S2 (mR (.head _)) rfl (mtI (f := 501) S2 (mF (i := 3) rfl) (mF (i := 4) rfl) rfl (by kernel_rfl) (df1 S2 (by kernel_rfl) (nmL S2 (mR (.head _)) rfl ⟨⟨_, S2⟩, ?_⟩))))
  refine take_spec S2 ((hA.down _).le (by decide)) hv ok fun s3 S3 => ⟨⟨_, S3⟩, ?_⟩
  rw [← eA]
  refine new_scalar_spec S3 ((hA.down _).le (by decide)) (mF (i := 7) rfl) (mF (σ := { σ.take x with last := (σ.take x).last + 1 }) (i := 7) rfl) (uF (i := 8) (σ' := { σ.take x with last := (σ.take x).last + 1 }) rfl rfl) fun a d wl s4 S4 => ?_
  refine ⟨_, _, L, _, S4, .tail (.tail (.tail (uR .head))), rfl, fun s5 S5 => ?_⟩
  refine wpAny_execs_cons (asg (wpAny_Constant_int ?_))
  refine nmL (S5.toks _) (.tail _ (.tail _ (.tail _ (mR (.head _))))) rfl ?_
  refine setA (S5.toks _) (.head _) (.tail .head) (by kernel_rfl) fun s6 S6 => ?_
  refine wpAny_execs_cons (wpAny_Return_some ?_)
  refine nmL S6 (.tail _ (.tail _ (.tail _ (mR (.head _))))) rfl ?_
  rw [el, hv] at S6
  have S7 := S6.sub (W' := _ :: _ :: _ :: (objs { σ.take x with last := σ.last + 1 } ++ R)) (.cons_cons _ (.cons_cons _ (.cons_cons _ ((List.sublist_cons_self _ R).append_left _))))
  refine h ⟨a, d, wl, wl, σ.last + 1, 1, false, x⟩ _ ⟨rfl, rfl, rfl, rfl, rfl, trivial⟩ ?_
  have S8 := S7.perm (addS (c := ⟨a, d, wl, wl, σ.last + 1, 1, false, x⟩))
  unfold Dm.newc
  rw [el]
  exact S8
end
end Mine
end
section
open PySem PySem.W PySem.Calls PyProof.Rows
set_option maxRecDepth 100000
namespace Mine
noncomputable def Dm.takes (σ : Dm) (xs : List DV) : Dm := xs.foldl Dm.take σ
theorem take_newc {σ : Dm} {cs : List Sc} {x : DV} : (σ.newc cs).take x = (σ.take x).newc cs := by
  cases x with
  | rf f => unfold Dm.take Dm.addc; dsimp only; split <;> rfl
  | _ => rfl
theorem newc_newc {σ : Dm} {cs ds : List Sc} : (σ.newc cs).newc ds = σ.newc (cs ++ ds) := by
  unfold Dm.newc
  simp only [List.append_assoc, List.length_append]
  congr 1
  push_cast; lia
theorem takes_snoc {σ : Dm} {xs : List DV} {x : DV} : σ.takes (xs ++ [x]) = (σ.takes xs).take x := by unfold Dm.takes; rw [List.foldl_append]; rfl
theorem take_A {σ : Dm} {x : DV} : (σ.take x).A = σ.A ∧ (σ.take x).last = σ.last ∧ (σ.take x).refs = σ.refs ∧ (σ.take x).scs = σ.scs ∧ (σ.take x).zero = σ.zero := by
  cases x with
  | rf f => unfold Dm.take Dm.addc; dsimp only; split <;> exact ⟨rfl, rfl, rfl, rfl, rfl⟩
  | _ => exact ⟨rfl, rfl, rfl, rfl, rfl⟩
theorem takes_A {σ : Dm} {xs : List DV} : (σ.takes xs).A = σ.A ∧ (σ.takes xs).last = σ.last ∧ (σ.takes xs).refs = σ.refs ∧ (σ.takes xs).scs = σ.scs ∧ (σ.takes xs).zero = σ.zero := by
  induction xs generalizing σ with
  | nil => exact ⟨rfl, rfl, rfl, rfl, rfl⟩
  | cons x xs ih =>
    obtain ⟨a, b, c, d, e⟩ := @ih (σ.take x)
    obtain ⟨a', b', c', d', e'⟩ := @take_A σ x
    exact ⟨a.trans a', b.trans b', c.trans c', d.trans d', e.trans e'⟩
theorem newOk_len : ∀ {n : Int} {xs : List DV} {cs : List Sc}, newOk n xs cs → cs.length = xs.length
  | _, [], [], _ => rfl
  | _, _ :: _, _ :: _, h => by rw [List.length_cons, List.length_cons, newOk_len h.2.2.2.2.2]
  | _, [], _ :: _, h => h.elim
  | _, _ :: _, [], h => h.elim
theorem newOk_snoc {x : DV} {c : Sc} : ∀ {n : Int} {xs : List DV} {cs : List Sc}, newOk n xs cs → newOk (n + cs.length) [x] [c] → newOk n (xs ++ [x]) (cs ++ [c])
  | n, [], [], _, h => by simpa using h
  | n, _ :: _, d :: cs, h, h' => ⟨h.1, h.2.1, h.2.2.1, h.2.2.2.1, h.2.2.2.2.1, newOk_snoc h.2.2.2.2.2 (by
      have : n + ((d :: cs).length : Int) = n + 1 + (cs.length : Int) := by rw [List.length_cons]; push_cast; lia
      rw [← this]; exact h')⟩
  | _, [], _ :: _, h, _ => h.elim
  | _, _ :: _, [], h, _ => h.elim
theorem ok_of {σ σ' : Dm} {x : DV} (h : x.ok σ) (e : σ'.refs = σ.refs) : x.ok σ' := by
  cases x with
  | rf f => show f ∈ σ'.refs; rw [e]; exact h
  | _ => trivial
theorem newc_nil {σ : Dm} : σ.newc [] = σ := by
  unfold Dm.newc
  simp
section
variable {w : World} {s₀ s : Shared} {W W' X R : Led} {A : Around} {E : Value → Shared → Prop} {Q : Value → Shared → Prop} {env : Env} {σ : Dm}
theorem fresh_scalars_spec {ds : List DV} {vl : Addr} (S : Sp w s₀ (objs σ ++ R) s) (hA : Rm A 7) (hl : (vl, .list (ds.map DV.val)) ∈ R) (ok : ∀ x ∈ ds, x.ok σ) (hz : ds.length ≤ 900)
    (h : ∀ cs l s', newOk σ.last ds cs → Sp w s₀ (objs ((σ.takes ds).newc cs) ++ ((l, .list (cs.map fun c => .ref c.a)) :: R)) s' → Q (.ref l) s') : wpAny (model pg w) A (call (.ref 273) [.ref σ.A.ctr, .ref vl]) Q E s := by
  refine callC1 [(k "values", .ref vl)] (k "counter") (some (.ref σ.A.ctr)) S hA.lt rfl (by kernel_rfl) rfl rfl rfl (fun L s1 S1 => ?_)
  refine wpAny_execs_cons (wpAny_Return_some ?_)
  refine compR (s₀ := s₀) (fun i acc X R' => ∃ cs, X = objs ((σ.takes (ds.take i)).newc cs) ∧ R' = ((L, .ns [(k "values", .ref vl)]) :: (L + 1, .cell (some (.ref σ.A.ctr))) :: R) ∧ newOk σ.last (ds.take i) cs ∧ acc = cs.map fun c => .ref c.a)
    rfl (by decide) rfl (by decide) rfl hA.2.2 ?_
  refine nmL S1 (mR (.head _)) rfl ⟨vl, ds.map DV.val, _, _, rfl, S1, ⟨[], by rw [List.take_zero]; exact congrArg objs newc_nil.symm, rfl, trivial, rfl⟩, by rw [List.length_map]; exact hz, ?_, ?_, ?_⟩
  · rintro i acc X R' ⟨cs, rfl, rfl, hn, rfl⟩
    refine ⟨mR (.tail _ (.tail _ hl)), ?_⟩
    rw [List.length_map, newOk_len hn, List.length_take]; lia
  · rintro C D I i acc X R' v m s E ⟨cs, rfl, rfl, hn, rfl⟩ hv hm S2
    refine wpAny_pure ?_
    rw [if_pos rfl]
    rw [List.getElem?_map] at hv
    obtain ⟨x, hx, hxv⟩ := Option.map_eq_some_iff.mp hv
    have eA : ((σ.takes (ds.take i)).newc cs).A = σ.A := takes_A.1
    have eR : ((σ.takes (ds.take i)).newc cs).refs = σ.refs := takes_A.2.2.1
    have el : ((σ.takes (ds.take i)).newc cs).last = σ.last + cs.length := by show (σ.takes (ds.take i)).last + _ = _; rw [takes_A.2.1]
    refine callM (nmC (c := L + 1) (v := .ref σ.A.ctr) S2 (mR (.tail _ (.tail _ (.tail _ (.tail _ (.head _)))))) ?_)
    refine mtI (f := 520) S2 (C := 551) (d := σ.A.cd) (by rw [← eA]; exact mF (i := 3) rfl) (by rw [← eA]; exact mF (i := 4) rfl) rfl (by kernel_rfl) (df1 S2 (by kernel_rfl) (nmL S2 (mR (.head _)) hm ⟨⟨_, S2⟩, ?_⟩))
    refine fresh_spec S2 ((hA.down _).le (by decide)) hxv.symm (ok_of (ok x (List.mem_of_getElem? hx)) eR) (fun c s3 hc S3 => ?_) eA
    have e1 : ds.take (i + 1) = ds.take i ++ [x] := by rw [List.take_add_one, hx]; rfl
    refine ⟨_, _, ⟨cs ++ [c], ?_, rfl, ?_, ?_⟩, S3⟩
    · rw [e1, takes_snoc, take_newc, newc_newc]
    · rw [e1]; rw [el] at hc; exact newOk_snoc hn hc
    · rw [List.map_append]; rfl
  · rintro acc X R' D s ⟨cs, rfl, rfl, hn, rfl⟩ S2
    rw [List.length_map, List.take_length] at hn S2
    exact h cs D s hn (S2.sub (.append_left (.cons_cons _ (.cons _ (.cons _ (.refl _)))) _))
end
end Mine
end
section
open PySem PySem.W PySem.Calls PyProof.Rows
set_option maxRecDepth 100000
namespace Mine
section
variable {w : World} {s₀ s : Shared} {W W' X R : Led} {A : Around} {E : Value → Shared → Prop} {Q : Value → Shared → Prop} {env : Env} {σ : Dm}
noncomputable def Dm.has (σ : Dm) (o : Option It) : Prop := ∀ t, o = some t → ∃ c, σ.At t c
theorem scI {t : It} {c : Sc} (h : σ.At t c) : (t.a, SO.inst 59 c.d) ∈ objs σ ++ R := h.2 ▸ mS (List.mem_of_getElem? h.1) (.head _)
theorem scD {t : It} {c : Sc} (h : σ.At t c) : (c.d, SO.dict (scF c.num c.cnt c.wk c.freed c.val.val)) ∈ objs σ ++ R := mS (List.mem_of_getElem? h.1) (.tail _ (.head _))
theorem vl_at {t : It} {c : Sc} (h : σ.At t c) : σ.vl (some t) = c.val := by unfold Dm.vl; dsimp only; rw [h.1]; rfl
theorem er_val (x : DV) : er x.val = x.val := by cases x <;> rfl
theorem value_of_spec {o : Option It} {v : Value} (S : Sp w s₀ (objs σ ++ R) s) (hA : Rm A 2) (hv : er v = itV o) (ho : σ.has o) (h : ∀ u s', er u = (σ.vl o).val → Sp w s₀ (objs σ ++ R) s' → Q u s') : wpAny (model pg w) A (call (.ref 229) [v]) Q E s := by
  refine callS [(k "x", v)] S hA.lt rfl (by kernel_rfl) (BindsTo.of_eq rfl) (fun L s1 S1 => ?_)
  refine wpAny_execs_cons (wpAny_If (wpAny_isTrue_Not (wpAny_isTrue_value (callN (nmB (v := .builtin "isinstance") S1 (by kernel_rfl) (by kernel_rfl) (bi2 ?_))))))
  refine nmL S1 (mR (.head _)) rfl (nmG (v := .ref 59) S1 (by kernel_rfl) ?_)
  cases o with
  | none =>
    obtain rfl := er_none hv
    refine isNoneF S1 (by kernel_rfl) fun s2 S2 => wpAny_truthy_bool (wpAny_execs_cons (wpAny_Return_some (nmL S2 (mR (.head _)) rfl ?_)))
    exact h _ _ rfl S2.out1
  | some t =>
    obtain rfl := er_ref hv
    obtain ⟨c, hc⟩ := ho t rfl
    refine isTrueI S1 (scI hc) (by kernel_rfl) (wpAny_truthy_bool (wpAny_execs_nil ?_))
    refine wpAny_execs_cons (wpAny_If (wpAny_isTrue_Compare1 (Attribute_any_ (nmL S1 (mR (.head _)) rfl ?_))))
    refine getA S1 (scI hc) (scD hc) rfl (by kernel_rfl) fun v2 s2 ev S2 => ?_
    obtain rfl := er_none ev
    refine wpAny_Constant_none (isnot_none_gen (wpAny_truthy_bool (wpAny_execs_nil ?_)))
    refine wpAny_execs_cons (wpAny_Return_some (Attribute_any_ (nmL S2 (mR (.head _)) rfl ?_)))
    refine getA S2 (scI hc) (scD hc) rfl (by kernel_rfl) (fun v3 s3 ev S3 => h _ _ (by rw [vl_at hc]; exact ev) S3.out1) (by cases c.val <;> rfl)
theorem dropd_eq {t : It} {c : Sc} (h : σ.At t c) : σ.dropd t = { σ with scs := σ.scs.set t.i (c.setc 0), zero := σ.zero ++ [t] } := by unfold Dm.dropd; rw [modify_some h.1]
theorem drop_spec {A₀ : Ad} {t : It} {c : Sc} (S : Sp w s₀ (objs σ ++ R) s) (hA : Rm A 2) (hc : σ.At t c) (h1 : c.cnt = 1) (hz : σ.zero.length ≤ 1000) (h : ∀ s', Sp w s₀ (objs (σ.dropd t) ++ R) s' → Q .none s') (eA₀ : σ.A = A₀ := by rfl) :
    wpAny (model pg w) A (call (.ref 527) [.ref A₀.ctr, .ref t.a]) Q E s := by
  subst eA₀
  refine callS [(k "scalar", .ref t.a), (k "self", .ref σ.A.ctr)] S hA.lt rfl (by kernel_rfl) (BindsTo.of_eq rfl) (fun L s1 S1 => ?_)
  refine wpAny_execs_cons (wpAny_Expr (callM (nmL S1 (mR (.head _)) rfl (mtI (f := 487) S1 (mF (i := 3) rfl) (mF (i := 4) rfl) rfl (by kernel_rfl) (df1 S1 (by kernel_rfl) (nmL S1 (mR (.head _)) rfl ⟨⟨_, S1⟩, ?_⟩))))))
  have hc1 : Dm.At { σ with scs := σ.scs.set t.i (c.setc 0) } t (c.setc 0) := ⟨by rw [List.getElem?_set_self (List.getElem?_eq_some_iff.mp hc.1).1], hc.2⟩
  refine let_go_gen t.i (n := 1) (fs := scF c.num c.cnt c.wk c.freed c.val.val) S1 ((hA.down _).le (by decide)) (scI hc) (σ₁ := { σ with scs := σ.scs.set t.i (c.setc 0) }) rfl rfl rfl (scI (c := c.setc 0) hc1) (uS hc.1 (.tail .head)) hz (by rw [h1]; rfl) (by kernel_rfl) (by kernel_rfl) rfl fun s2 S2 => ?_
  rw [if_pos rfl] at S2
  refine wpAny_execs_nil (h _ ?_)
  rw [dropd_eq hc]
  exact S2.out1
theorem drop_member_spec {A₀ : Ad} {o : Option It} {v : Value} (S : Sp w s₀ (objs σ ++ R) s) (hA : Rm A 4) (hv : er v = itV o) (ho : ∀ t, o = some t → ∃ c, σ.At t c ∧ c.cnt = 1) (hz : σ.zero.length ≤ 1000)
    (h : ∀ u s', er u = (σ.vl o).val → Sp w s₀ (objs (σ.drop1 o) ++ R) s' → Q u s') (eA₀ : σ.A = A₀ := by rfl) : wpAny (model pg w) A (call (.ref 280) [.ref A₀.ctr, v]) Q E s := by
  subst eA₀
  refine callS [(k "member", v), (k "counter", .ref σ.A.ctr)] S hA.lt rfl (by kernel_rfl) (BindsTo.of_eq rfl) (fun L s1 S1 => ?_)
  refine wpAny_execs_cons (wpAny_If (wpAny_isTrue_Compare1 (nmL S1 (mR (.head _)) rfl (wpAny_Constant_none (is_none_gen (wpAny_truthy_bool ?_))))))
  cases o with
  | none =>
    obtain rfl := er_none hv
    exact wpAny_execs_cons (wpAny_Return_some (wpAny_Constant_none (h _ _ rfl S1.out1)))
  | some t =>
    obtain rfl := er_ref hv
    obtain ⟨c, hc, h1⟩ := ho t rfl
    refine wpAny_execs_nil ?_
    refine wpAny_execs_cons (asgL S1 (callN (nmG (v := .ref 229) S1 (by kernel_rfl) (df1 S1 (by kernel_rfl) (nmL S1 (mR (.head _)) rfl ⟨⟨_, S1⟩, ?_⟩)))))
    refine value_of_spec S1 ((hA.down _).le (by decide)) hv (fun t' e => by cases e; exact ⟨c, hc⟩) fun u s2 hu S2 => ⟨_, _, L, _, S2, uR .head, rfl, fun s3 S3 => ?_⟩
    refine wpAny_execs_cons (wpAny_Expr (callM (nmL S3 (mR (.head _)) rfl (mtI (f := 527) S3 (mF (i := 3) rfl) (mF (i := 4) rfl) rfl (by kernel_rfl) (df1 S3 (by kernel_rfl) (nmL S3 (mR (.head _)) rfl ⟨⟨_, S3⟩, ?_⟩))))))
    refine drop_spec S3 ((hA.down _).le (by decide)) hc h1 hz fun s4 S4 => ?_
    exact wpAny_execs_cons (wpAny_Return_some (nmL S4 (mR (.head _)) rfl (h _ _ hu S4.out1)))
end
end Mine
end
section
open PySem PySem.W PySem.Calls PyProof.Rows
set_option maxRecDepth 100000
namespace Mine
theorem dropd_at {σ : Dm} {t u : It} {c : Sc} (hn : t.i ≠ u.i) (h : σ.At t c) : (σ.dropd u).At t c := ⟨by
  show (σ.scs.modify u.i (Sc.setc 0))[t.i]? = _
  have e : ¬ u.i = t.i := fun e => hn e.symm
  simp only [List.getElem?_modify, if_neg e]
  simpa using h.1, h.2⟩
theorem dropd_vl {σ : Dm} {u : It} (o : Option It) : (σ.dropd u).vl o = σ.vl o := by
  cases o with
  | none => rfl
  | some t =>
    unfold Dm.vl Dm.dropd
    dsimp only
    rw [List.getElem?_modify]
    cases σ.scs[t.i]? with
    | none => rfl
    | some c => simp only [Option.map_eq_map, Option.map_some, Option.getD_some]; split <;> rfl
theorem drop1_vl {σ : Dm} {m : Option It} (o : Option It) : (σ.drop1 m).vl o = σ.vl o := by cases m; rfl; exact dropd_vl o
theorem drops_vl {σ : Dm} (ms : List (Option It)) (o : Option It) : (σ.drops ms).vl o = σ.vl o := by
  induction ms generalizing σ with
  | nil => rfl
  | cons m ms ih => exact (ih (σ := σ.drop1 m)).trans (drop1_vl o)
theorem drops_snoc {σ : Dm} {ms : List (Option It)} {m : Option It} : σ.drops (ms ++ [m]) = (σ.drops ms).drop1 m := by unfold Dm.drops; rw [List.foldl_append]; rfl
theorem drop1_A {σ : Dm} {m : Option It} : (σ.drop1 m).A = σ.A ∧ (σ.drop1 m).refs = σ.refs ∧ (σ.drop1 m).zero.length ≤ σ.zero.length + 1 ∧ (σ.drop1 m).last = σ.last := by
  cases m with
  | none => exact ⟨rfl, rfl, Nat.le_succ _, rfl⟩
  | some t => exact ⟨rfl, rfl, by show (σ.zero ++ [t]).length ≤ _; simp, rfl⟩
theorem drops_A {σ : Dm} {ms : List (Option It)} : (σ.drops ms).A = σ.A ∧ (σ.drops ms).refs = σ.refs ∧ (σ.drops ms).zero.length ≤ σ.zero.length + ms.length ∧ (σ.drops ms).last = σ.last := by
  induction ms generalizing σ with
  | nil => exact ⟨rfl, rfl, Nat.le_refl _, rfl⟩
  | cons m ms ih =>
    obtain ⟨a, b, c, d⟩ := ih (σ := σ.drop1 m)
    obtain ⟨a', b', c', d'⟩ := drop1_A (σ := σ) (m := m)
    refine ⟨a.trans a', b.trans b', ?_, d.trans d'⟩
    show ((σ.drop1 m).drops ms).zero.length ≤ _
    rw [List.length_cons]; lia
theorem drops_at {σ : Dm} {t : It} {c : Sc} : ∀ {ms : List (Option It)}, t.i ∉ ixs ms → σ.At t c → (σ.drops ms).At t c := by
  intro ms
  induction ms generalizing σ with
  | nil => exact fun _ h => h
  | cons m ms ih =>
    intro hn h
    cases m with
    | none => exact ih hn h
    | some u =>
      have hn' : t.i ∉ u.i :: ixs ms := hn
      rw [List.mem_cons, not_or] at hn'
      exact ih (σ := σ.dropd u) hn'.2 (dropd_at hn'.1 h)
theorem ixs_append (a b : List (Option It)) : ixs (a ++ b) = ixs a ++ ixs b := List.filterMap_append ..
theorem ixs_notin {ms : List (Option It)} {t : It} {i : Nat} (hn : (ixs ms).Nodup) (h : ms[i]? = some (some t)) : t.i ∉ ixs (ms.take i) := by
  have e : ms = ms.take i ++ (some t :: ms.drop (i + 1)) := by
    have := (List.getElem?_eq_some_iff.mp h)
    obtain ⟨h1, h2⟩ := this
    rw [← h2, List.getElem_cons_drop, List.take_append_drop]
  rw [e, ixs_append] at hn
  intro hm
  exact (List.nodup_append.mp hn).2.2 _ hm _ (List.Mem.head _) rfl
section
variable {w : World} {s₀ s : Shared} {W W' X R : Led} {A : Around} {E : Value → Shared → Prop} {Q : Value → Shared → Prop} {env : Env} {σ : Dm}
theorem drop_members_spec {A₀ : Ad} {ms : List (Option It)} {vl : Addr} (S : Sp w s₀ (objs σ ++ R) s) (hA : Rm A 6) (hl : (vl, .list (ms.map itV)) ∈ R) (ho : σ.live ms) (hn : (ixs ms).Nodup) (hz : σ.zero.length + ms.length ≤ 1000) (hz2 : ms.length ≤ 900)
    (h : ∀ l s', Sp w s₀ (objs (σ.drops ms) ++ ((l, .list (ms.map fun o => (σ.vl o).val)) :: R)) s' → Q (.ref l) s') (eA₀ : σ.A = A₀ := by rfl) : wpAny (model pg w) A (call (.ref 285) [.ref A₀.ctr, .ref vl]) Q E s := by
  subst eA₀
  refine callC1 [(k "members", .ref vl)] (k "counter") (some (.ref σ.A.ctr)) S hA.lt rfl (by kernel_rfl) rfl rfl rfl (fun L s1 S1 => ?_)
  refine wpAny_execs_cons (wpAny_Return_some ?_)
  refine compR (s₀ := s₀) (fun i acc X R' => X = objs (σ.drops (ms.take i)) ∧ R' = ((L, .ns [(k "members", .ref vl)]) :: (L + 1, .cell (some (.ref σ.A.ctr))) :: R) ∧ acc = (ms.take i).map fun o => (σ.vl o).val)
    rfl (by decide) rfl (by decide) rfl hA.2.2 ?_
  refine nmL S1 (mR (.head _)) rfl ⟨vl, ms.map itV, _, _, rfl, S1, ⟨by rw [List.take_zero]; rfl, rfl, by rw [List.take_zero]; rfl⟩, by rw [List.length_map]; exact hz2, ?_, ?_, ?_⟩
  · rintro i acc X R' ⟨rfl, rfl, rfl⟩
    refine ⟨mR (.tail _ (.tail _ hl)), ?_⟩
    rw [List.length_map, List.length_take]; lia
  · rintro C D I i acc X R' v m s E ⟨rfl, rfl, rfl⟩ hv hm S2
    refine wpAny_pure ?_
    rw [if_pos rfl]
    rw [List.getElem?_map] at hv
    obtain ⟨o, hx, hxv⟩ := Option.map_eq_some_iff.mp hv
    have eA : (σ.drops (ms.take i)).A = σ.A := drops_A.1
    refine callN (nmG (v := .ref 280) S2 (by kernel_rfl) (df2 S2 (by kernel_rfl) ?_))
    refine nmC (c := L + 1) (v := .ref σ.A.ctr) S2 (mR (.tail _ (.tail _ (.tail _ (.tail _ (.head _)))))) (nmL S2 (mR (.head _)) hm ⟨⟨_, S2⟩, ?_⟩)
    refine drop_member_spec S2 ((hA.down _).le (by decide)) hxv.symm (fun t e => ?_) ?_ (fun u s3 hu S3 => ?_) eA
    · subst e
      obtain ⟨c, hc, h1⟩ := ho t (List.mem_of_getElem? hx)
      exact ⟨c, drops_at (ixs_notin hn hx) hc, h1⟩
    · have := (drops_A (σ := σ) (ms := ms.take i)).2.2.1
      rw [List.length_take] at this
      lia
    · have e1 : ms.take (i + 1) = ms.take i ++ [o] := by rw [List.take_add_one, hx]; rfl
      refine ⟨_, _, ⟨?_, rfl, ?_⟩, S3⟩
      · rw [e1, drops_snoc]
      · rw [e1, List.map_append, hu, drops_vl]; rfl
  · rintro acc X R' D s ⟨rfl, rfl, rfl⟩ S2
    rw [List.length_map, List.take_length] at S2
    exact h D s (S2.sub (.append_left (.cons_cons _ (.cons _ (.cons _ (.refl _)))) _))
end
end Mine
end
section
open PySem PySem.W PySem.Calls PyProof.Rows
set_option maxRecDepth 100000
namespace Mine
inductive TV where
  | none
  | int (i : Int)
  | str (x : Sx)
  | ref (n : Int)
  deriving DecidableEq
structure Tv where
  t : TV
  a : Addr
noncomputable def DV.told : DV → TV
  | .none => .none
  | .int i => .int i
  | .str x => .str x
  | .rf f => .ref (if f.j then 2 else 1)
noncomputable def Tv.val (x : Tv) : Value := match x.t with
  | .none => .none
  | .int i => vi i
  | .str y => .str y.1 0
  | .ref _ => .ref x.a
noncomputable def Tv.objs (x : Tv) : Led := match x.t with
  | .ref n => [(x.a, .tup [.str (k "ref") 0, vi n])]
  | _ => []
noncomputable def TV.data : TV → PyData
  | .none => .none
  | .int i => .int i
  | .str x => .str x.1
  | .ref n => .tuple [.str (k "ref"), .int n]
theorem data_eqv (x y : TV) : PyData.eqv x.data y.data = decide (x = y) := by
  cases x <;> cases y <;> simp [TV.data, PyData.eqv, PyData.eqvAll]
  · rw [Bool.eq_iff_iff, beq_iff_eq, decide_eq_true_iff]
  · rw [Bool.eq_iff_iff, beq_iff_eq, decide_eq_true_iff, Subtype.ext_iff]
  · rw [Bool.eq_iff_iff, beq_iff_eq, decide_eq_true_iff]
theorem datas_eqv : ∀ xs ys : List TV, PyData.eqvAll (xs.map TV.data) (ys.map TV.data) = decide (xs = ys)
  | [], [] => by simp [PyData.eqvAll]
  | [], _ :: _ => by simp [PyData.eqvAll]
  | _ :: _, [] => by simp [PyData.eqvAll]
  | x :: xs, y :: ys => by
    rw [List.map_cons, List.map_cons, PyData.eqvAll, data_eqv, datas_eqv xs ys]
    simp
theorem data_lay (x : TV) : x.data.canLay0 = true ∧ x.data.depth ≤ 1 := by
  cases x <;> simp [TV.data, PyData.canLay0, PyData.canLayAll0, PyData.depth, PyData.depthAll]
  · rename_i a; exact a.2
  · decide +kernel
theorem datas_lay : ∀ xs : List TV, PyData.canLayAll0 (xs.map TV.data) = true ∧ PyData.depthAll (xs.map TV.data) ≤ 1
  | [] => by simp [PyData.canLayAll0, PyData.depthAll]
  | x :: xs => by
    have h1 := data_lay x
    have h2 := datas_lay xs
    rw [List.map_cons, PyData.canLayAll0, PyData.depthAll, h1.1, h2.1]
    exact ⟨rfl, by lia⟩
theorem datas_shaped (xs : List TV) : SeqAt.shaped (.list (xs.map TV.data)) = true := by
  have h := datas_lay xs
  unfold SeqAt.shaped
  rw [PyData.canLay0, PyData.depth, h.1, Bool.true_and]
  exact decide_eq_true (by lia)
section
variable {w : World} {s₀ s : Shared} {W W' X R : Led} {A : Around} {E : Value → Shared → Prop} {Q : Value → Shared → Prop} {env : Env} {σ : Dm}
theorem tv_reads {x : Tv} {v : Value} (S : Sp w s₀ W s) (h : ∀ p ∈ x.objs, p ∈ W) (hv : er v = x.val) : Reads s.heap v x.t.data [] := by
  obtain ⟨t, a⟩ := x
  cases t with
  | none => obtain rfl := er_none hv; exact .none
  | int i => obtain ⟨t, rfl⟩ := er_int hv; exact .int _ _
  | str y => obtain ⟨t, rfl⟩ := er_str hv; exact .str _ _
  | ref n =>
    obtain rfl := er_ref hv
    obtain ⟨vs, m, e1, e2⟩ := S.tup (h _ (.head _))
    rcases vs with _ | ⟨u, _ | ⟨v, _ | ⟨z, vs⟩⟩⟩
    · simp at e2
    · simp at e2
    · rw [List.map_cons, List.map_cons, List.map_nil] at e2
      obtain ⟨q1, q2⟩ := List.cons.inj e2
      obtain ⟨q2, _⟩ := List.cons.inj q2
      obtain ⟨t1, rfl⟩ := er_str q1
      obtain ⟨t2, rfl⟩ := er_int q2
      exact .tuple (o := { cls := .type "tuple", data := .seq _ m }) e1 rfl rfl (.cons (.str _ _) (.cons (.int _ _) .nil))
    · simp at e2
theorem tvs_reads (S : Sp w s₀ W s) : ∀ {xs : List Tv} {vs : List Value}, (∀ p ∈ xs.flatMap Tv.objs, p ∈ W) → vs.map er = xs.map Tv.val → ReadsAll s.heap vs ((xs.map Tv.t).map TV.data) []
  | [], [], _, _ => .nil
  | x :: xs, v :: vs, h, e => by
    rw [List.map_cons, List.map_cons] at e
    obtain ⟨e1, e2⟩ := List.cons.inj e
    exact .cons (as := []) (bs := []) (tv_reads S (fun p hp => h p (List.mem_flatMap.mpr ⟨x, .head _, hp⟩)) e1) (tvs_reads S (fun p hp => h p (by rw [List.flatMap_cons]; exact List.mem_append_right _ hp)) e2)
  | [], _ :: _, _, e => by cases e
  | _ :: _, [], _, e => by cases e
theorem told_reads {l : Addr} {xs : List Tv} (S : Sp w s₀ W s) (hl : (l, .list (xs.map Tv.val)) ∈ W) (h : ∀ p ∈ xs.flatMap Tv.objs, p ∈ W) : Reads s.heap (.ref l) (.list ((xs.map Tv.t).map TV.data)) [l] := by
  obtain ⟨vs, n, e1, e2⟩ := S.list hl
  exact .list e1 rfl rfl (by simpa using tvs_reads S h e2)
theorem Rm.u64 {n : Nat} (h : Rm A (n + 4)) : A.units + 64 < cLine := by have := h.2.1; lia
theorem eqTold {l b : Addr} {xs ys : List Tv} (S : Sp w s₀ W s) (hu : A.units + 64 < cLine) (hl : (l, .list (xs.map Tv.val)) ∈ W) (hx : ∀ p ∈ xs.flatMap Tv.objs, p ∈ W) (hb : (b, .list (ys.map Tv.val)) ∈ W) (hy : ∀ p ∈ ys.flatMap Tv.objs, p ∈ W)
    (h : Q (.bool (decide (xs.map Tv.t = ys.map Tv.t))) s) : wpAny (model pg w) A (compareOp .Eq (.ref l) (.ref b)) Q E s :=
  eq_dataH (told_reads S hl hx) (told_reads S hb hy) (datas_shaped _) (datas_shaped _) hu (by rw [PyData.eqv, datas_eqv]; exact h)
theorem neTold {l b : Addr} {xs ys : List Tv} (S : Sp w s₀ W s) (hu : A.units + 64 < cLine) (hl : (l, .list (xs.map Tv.val)) ∈ W) (hx : ∀ p ∈ xs.flatMap Tv.objs, p ∈ W) (hb : (b, .list (ys.map Tv.val)) ∈ W) (hy : ∀ p ∈ ys.flatMap Tv.objs, p ∈ W)
    (h : Q (.bool (!decide (xs.map Tv.t = ys.map Tv.t))) s) : wpAny (model pg w) A (compareOp .NotEq (.ref l) (.ref b)) Q E s :=
  ne_dataH (told_reads S hl hx) (told_reads S hb hy) (datas_shaped _) (datas_shaped _) hu (by rw [PyData.eqv, datas_eqv]; exact h)
theorem eqNil {l b : Addr} {xs : List Value} (S : Sp w s₀ W s) (hu : A.units < cLine) (hl : (l, .list xs) ∈ W) (hb : (b, .list []) ∈ W) (h : Q (.bool xs.isEmpty) s) : wpAny (model pg w) A (compareOp .Eq (.ref l) (.ref b)) Q E s := by
  obtain ⟨vs, h1, h2⟩ := S.isList hl
  obtain ⟨us, h3, h4⟩ := S.isList hb
  have eu : us = [] := List.map_eq_nil_iff.mp h4
  subst eu
  show wpAny _ _ (richCompare .Eq _ _) _ _ _
  cases vs with
  | nil =>
    subst h2
    exact SeqAt.RcAt.lists (e := fun _ => true) h1 h3 rfl hu (fun j h1 => by simp at h1) _ _ _ _ h
  | cons v vs =>
    subst h2
    exact SeqAt.RcAt.lists_lengths h1 h3 (by simp) hu _ _ _ _ h
end
end Mine
end
section
open PySem PySem.W PySem.Calls PyProof.Rows
set_option maxRecDepth 100000
namespace Mine
section
variable {w : World} {s₀ s : Shared} {W W' X R : Led} {A : Around} {E : Value → Shared → Prop} {Q : Value → Shared → Prop} {env : Env} {σ : Dm}
theorem tgNumber {j : Bool} (S : Sp w s₀ (objs σ ++ R) s) (h : ∀ t s', Sp w s₀ (objs σ ++ R) s' → Q (.int (if j then 2 else 1) t) s') {ex : Bool} : wpAny (model pg w) A (getAttr (.ref (σ.A.tg j)) (k "number") ex) Q E s := by
  cases j with
  | false => exact getA S (mF (i := 11) rfl) (mF (i := 12) rfl) rfl (by kernel_rfl) fun v s' ev S' => by obtain ⟨t, rfl⟩ := er_int ev; exact h _ _ S'
  | true => exact getA S (mF (i := 14) rfl) (mF (i := 15) rfl) rfl (by kernel_rfl) fun v s' ev S' => by obtain ⟨t, rfl⟩ := er_int ev; exact h _ _ S'
theorem Sp.past3 {p a b c : Addr × SO} (S : Sp w s₀ (p :: (X ++ (a :: b :: c :: R))) s) : Sp w s₀ (X ++ (a :: b :: c :: (p :: R))) s :=
  S.inn.perm ((List.perm_middle (l₁ := [a, b, c])).symm.append_left X)
theorem told_spec {ds : List DV} {vl : Addr} (S : Sp w s₀ (objs σ ++ R) s) (hA : Rm A 3) (hl : (vl, .list (ds.map DV.val)) ∈ R) (ok : ∀ x ∈ ds, x.ok σ) (hz : ds.length ≤ 900)
    (h : ∀ (ts : List Tv) l s', ts.map Tv.t = ds.map DV.told → Sp w s₀ (objs σ ++ ((l, .list (ts.map Tv.val)) :: ((ts.flatMap Tv.objs).reverse ++ R))) s' → Q (.ref l) s') : wpAny (model pg w) A (call (.ref 602) [.ref vl]) Q E s := by
  refine callS [(k "values", .ref vl)] S hA.lt rfl (by kernel_rfl) (BindsTo.of_eq rfl) (fun L s1 S1 => ?_)
  refine wpAny_execs_cons (wpAny_Return_some ?_)
  refine compR (s₀ := s₀) (fun i acc X R' => ∃ ts : List Tv, X = objs σ ∧ R' = (ts.flatMap Tv.objs).reverse ++ ((L, .ns [(k "values", .ref vl)]) :: R) ∧ ts.map Tv.t = (ds.take i).map DV.told ∧ acc = ts.map Tv.val)
    rfl (by decide) rfl (by decide) rfl hA.2.2 ?_
  refine nmL S1 (mR (.head _)) rfl ⟨vl, ds.map DV.val, _, _, rfl, S1, ⟨[], rfl, rfl, rfl, rfl⟩, by rw [List.length_map]; exact hz, ?_, ?_, ?_⟩
  · rintro i acc X R' ⟨ts, rfl, rfl, e, rfl⟩
    refine ⟨mR (List.mem_append_right _ (.tail _ hl)), ?_⟩
    have := congrArg List.length e
    rw [List.length_map, List.length_map, List.length_take] at this
    rw [List.length_map]; lia
  · rintro C D I i acc X R' v m s E ⟨ts, rfl, rfl, e, rfl⟩ hv hm S2
    refine wpAny_pure ?_
    rw [if_pos rfl]
    rw [List.getElem?_map] at hv
    obtain ⟨x, hx, hxv⟩ := Option.map_eq_some_iff.mp hv
    have okx := ok x (List.mem_of_getElem? hx)
    have e1 : ds.take (i + 1) = ds.take i ++ [x] := by rw [List.take_add_one, hx]; rfl
    have fin : ∀ (tv : Tv) (y : Value) (s4 : Shared), tv.t = x.told → er y = tv.val → Sp w s₀ (objs σ ++ ((C, .ns m) :: (D, .list (ts.map Tv.val)) :: I :: (tv.objs.reverse ++ ((ts.flatMap Tv.objs).reverse ++ ((L, .ns [(k "values", .ref vl)]) :: R))))) s4 →
        ∃ X' R', (∃ us : List Tv, X' = objs σ ∧ R' = (us.flatMap Tv.objs).reverse ++ ((L, .ns [(k "values", .ref vl)]) :: R) ∧ us.map Tv.t = (ds.take (i + 1)).map DV.told ∧ ts.map Tv.val ++ [er y] = us.map Tv.val) ∧ Sp w s₀ (X' ++ ((C, .ns m) :: (D, .list (ts.map Tv.val)) :: I :: R')) s4 := by
      intro tv y s4 h1 h2 S4
      refine ⟨_, _, ⟨ts ++ [tv], rfl, rfl, ?_, ?_⟩, ?_⟩
      · rw [e1, List.map_append, List.map_append, e, List.map_cons, List.map_cons, h1]; rfl
      · rw [List.map_append, h2]; rfl
      · rw [List.flatMap_append, List.reverse_append, List.append_assoc, List.flatMap_cons, List.flatMap_nil, List.append_nil]
        exact S4
    refine IfExp_ (wpAny_isTrue_value (callN (nmB (v := .builtin "isinstance") S2 (by kernel_rfl) (by kernel_rfl) (bi2 ?_))))
    refine nmL S2 (mR (.head _)) hm (nmG (v := .ref 155) S2 (by kernel_rfl) (isRef S2 hxv.symm okx fun s3 S3 => wpAny_truthy_bool ?_))
    cases x with
    | rf f =>
      obtain rfl := er_ref hxv.symm
      simp only [if_true]
      refine Tuple_ (wpAny_items_cons (wpAny_Constant_str (wpAny_items_cons (Attribute_any_ (Attribute_any_ (nmL (S3.toks _) (mR (.head _)) hm ?_))))))
      refine getAr (S3.toks _) (rfI okx) (rfD okx) rfl (by kernel_rfl) fun s4 S4 => ?_
      refine tgNumber S4 fun t s5 S5 => wpAny_items_nil (newT S5 fun tp s6 S6 => ?_)
      exact fin ⟨.ref (if f.j then 2 else 1), tp⟩ _ _ rfl rfl S6.past3
    | none => exact nmL S3 (mR (.head _)) hm (fin ⟨.none, 0⟩ _ _ rfl hxv.symm S3)
    | int n => exact nmL S3 (mR (.head _)) hm (fin ⟨.int n, 0⟩ _ _ rfl hxv.symm S3)
    | str n => exact nmL S3 (mR (.head _)) hm (fin ⟨.str n, 0⟩ _ _ rfl hxv.symm S3)
  · rintro acc X R' D s ⟨ts, rfl, rfl, e, rfl⟩ S2
    rw [List.length_map, List.take_length] at e
    exact h ts D s e (S2.sub (.append_left (.cons_cons _ (.append_left (.cons _ (.refl _)) _)) _))
end
end Mine
end
section
open PySem PySem.W PySem.Calls PyProof.Rows
set_option maxRecDepth 100000
namespace Mine
noncomputable def Ad.ar (A : Ad) (b : Bool) : Addr := if b then A.a2 else A.a1
noncomputable def Ad.ard (A : Ad) (b : Bool) : Addr := if b then A.a2d else A.a1d
noncomputable def Ad.arw (A : Ad) (b : Bool) : Addr := if b then A.a2w else A.a1w
noncomputable def Dm.ip (σ : Dm) (b : Bool) : Addr := if b then σ.i2p else σ.i1p
noncomputable def Dm.it (σ : Dm) (b : Bool) : List (Option It) := if b then σ.i2 else σ.i1
noncomputable def Dm.setIt (σ : Dm) (b : Bool) (its : List (Option It)) : Dm := if b then { σ with i2 := its } else { σ with i1 := its }
noncomputable def Dm.setIp (σ : Dm) (b : Bool) (p : Addr) : Dm := if b then { σ with i2p := p } else { σ with i1p := p }
section
variable {w : World} {s₀ s : Shared} {W W' X R : Led} {A : Around} {E : Value → Shared → Prop} {Q : Value → Shared → Prop} {env : Env} {σ : Dm} {b : Bool}
theorem arI : (σ.A.ar b, SO.inst 78 (σ.A.ard b)) ∈ objs σ ++ R := by cases b; exact mF (i := 18) rfl; exact mF (i := 21) rfl
theorem arD : (σ.A.ard b, SO.dict (arF (if b then 4 else 3) 1 (σ.A.arw b) (σ.ip b))) ∈ objs σ ++ R := by cases b; exact mF (i := 19) rfl; exact mF (i := 22) rfl
theorem arL : (σ.ip b, SO.list ((σ.it b).map itV)) ∈ objs σ ++ R := by cases b; exact mF (i := 25) rfl; exact mF (i := 26) rfl
theorem arU {its : List (Option It)} : Upd (objs σ ++ R) (σ.ip b) (.list ((σ.it b).map itV)) (.list (its.map itV)) (objs (σ.setIt b its) ++ R) := by
  cases b; exact uF (i := 25) (σ' := { σ with i1 := its }) rfl rfl; exact uF (i := 26) (σ' := { σ with i2 := its }) rfl rfl
theorem getItems {ex : Bool} (S : Sp w s₀ (objs σ ++ R) s) (h : ∀ s', Sp w s₀ (objs σ ++ R) s' → Q (.ref (σ.ip b)) s') : wpAny (model pg w) A (getAttr (.ref (σ.A.ar b)) (k "items") ex) Q E s :=
  getA S arI arD rfl (by kernel_rfl) fun v s' ev S' => by obtain rfl := er_ref ev; exact h _ S'
theorem swapMid {α : Type} {l₁ l₂ R : List α} {x y : α} : ((l₁ ++ x :: l₂) ++ y :: R).Perm ((l₁ ++ y :: l₂) ++ x :: R) := by
  refine (List.perm_middle.append_right _).trans ?_
  refine List.Perm.trans ?_ (List.perm_middle.append_right _).symm
  show (x :: ((l₁ ++ l₂) ++ y :: R)).Perm (y :: ((l₁ ++ l₂) ++ x :: R))
  refine ((List.perm_middle).cons x).trans (List.Perm.trans (.swap _ _ _) ((List.perm_middle).symm.cons y))
theorem setItems {l : Addr} {its : List (Option It)} {Q : Unit → Shared → Prop} (S : Sp w s₀ (objs σ ++ ((l, .list (its.map itV)) :: R)) s) (h : ∀ s', Sp w s₀ (objs ((σ.setIp b l).setIt b its) ++ ((σ.ip b, .list ((σ.it b).map itV)) :: R)) s' → Q () s') :
    wpAny (model pg w) A (setAttr (.ref (σ.A.ar b)) (k "items") (.ref l)) Q E s := by
  cases b with
  | false =>
    have U : Upd (objs σ ++ ((l, .list (its.map itV)) :: R)) σ.A.a1d (.dict (arF 3 1 σ.A.a1w σ.i1p)) (.dict (arF 3 1 σ.A.a1w l)) ((((fixed σ).set 19 (σ.A.a1d, .dict (arF 3 1 σ.A.a1w l))) ++ (σ.refs.flatMap (Rf.objs σ.A) ++ σ.scs.flatMap Sc.objs)) ++ ((l, .list (its.map itV)) :: R)) :=
      Upd.left (Upd.left ⟨19, rfl, rfl⟩)
    refine setA S (mF (i := 18) rfl) U (by kernel_rfl) fun s' S' => h s' (S'.perm ?_)
    exact swapMid (l₁ := ((fixed σ).set 19 (σ.A.a1d, .dict (arF 3 1 σ.A.a1w l))).take 25) (x := (σ.i1p, .list (σ.i1.map itV))) (l₂ := (σ.i2p, SO.list (σ.i2.map itV)) :: (σ.refs.flatMap (Rf.objs σ.A) ++ σ.scs.flatMap Sc.objs))
  | true =>
    have U : Upd (objs σ ++ ((l, .list (its.map itV)) :: R)) σ.A.a2d (.dict (arF 4 1 σ.A.a2w σ.i2p)) (.dict (arF 4 1 σ.A.a2w l)) ((((fixed σ).set 22 (σ.A.a2d, .dict (arF 4 1 σ.A.a2w l))) ++ (σ.refs.flatMap (Rf.objs σ.A) ++ σ.scs.flatMap Sc.objs)) ++ ((l, .list (its.map itV)) :: R)) :=
      Upd.left (Upd.left ⟨22, rfl, rfl⟩)
    refine setA S (mF (i := 21) rfl) U (by kernel_rfl) fun s' S' => h s' (S'.perm ?_)
    exact swapMid (l₁ := ((fixed σ).set 22 (σ.A.a2d, .dict (arF 4 1 σ.A.a2w l))).take 26) (x := (σ.i2p, .list (σ.i2.map itV))) (l₂ := (σ.refs.flatMap (Rf.objs σ.A) ++ σ.scs.flatMap Sc.objs))
theorem array_values_spec (S : Sp w s₀ (objs σ ++ R) s) (hA : Rm A 4) (ho : ∀ o ∈ σ.it b, σ.has o) (hz : (σ.it b).length ≤ 900)
    (h : ∀ l s', Sp w s₀ (objs σ ++ ((l, .list ((σ.it b).map fun o => (σ.vl o).val)) :: R)) s' → Q (.ref l) s') : wpAny (model pg w) A (call (.ref 395) [.ref (σ.A.ar b)]) Q E s := by
  refine callS [(k "array", .ref (σ.A.ar b))] S hA.lt rfl (by kernel_rfl) (BindsTo.of_eq rfl) (fun L s1 S1 => ?_)
  refine wpAny_execs_cons (wpAny_Return_some ?_)
  refine compR (s₀ := s₀) (fun i acc X R' => X = objs σ ∧ R' = (L, .ns [(k "array", .ref (σ.A.ar b))]) :: R ∧ acc = ((σ.it b).take i).map fun o => (σ.vl o).val)
    rfl (by decide) rfl (by decide) rfl hA.2.2 ?_
  refine Attribute_any_ (nmL S1 (mR (.head _)) rfl (getItems S1 fun s2 S2 => ⟨σ.ip b, (σ.it b).map itV, _, _, rfl, S2, ⟨rfl, rfl, rfl⟩, by rw [List.length_map]; exact hz, ?_, ?_, ?_⟩))
  · rintro i acc X R' ⟨rfl, rfl, rfl⟩
    refine ⟨arL, ?_⟩
    rw [List.length_map, List.length_take]; lia
  · rintro C D I i acc X R' v m s E ⟨rfl, rfl, rfl⟩ hv hm S3
    refine wpAny_pure ?_
    rw [if_pos rfl]
    rw [List.getElem?_map] at hv
    obtain ⟨o, hx, hxv⟩ := Option.map_eq_some_iff.mp hv
    refine callN (nmG (v := .ref 229) S3 (by kernel_rfl) (df1 S3 (by kernel_rfl) (nmL S3 (mR (.head _)) hm ⟨⟨_, S3⟩, ?_⟩)))
    refine value_of_spec S3 ((hA.down _).le (by decide)) hxv.symm (ho o (List.mem_of_getElem? hx)) fun u s4 hu S4 => ⟨_, _, ⟨rfl, rfl, ?_⟩, S4⟩
    rw [List.take_add_one, hx, List.map_append, hu]; rfl
  · rintro acc X R' D s ⟨rfl, rfl, rfl⟩ S3
    rw [List.length_map, List.take_length] at S3
    exact h D s (S3.sub (.append_left (.cons_cons _ (.cons _ (.refl _))) _))
end
end Mine
end
section
open PySem PySem.W PySem.Calls PyProof.Rows
set_option maxRecDepth 100000
namespace Mine
section
variable {w : World} {s₀ s : Shared} {W W' X R : Led} {A : Around} {E : Value → Shared → Prop} {Q : Value → Shared → Prop} {env : Env} {σ : Dm} {b : Bool}
theorem Sp.grew {p : Addr × SO} (S : Sp w s₀ W s) (hp : p ∈ W) {h' : Heap} {t : Tok} (k : ∀ b o, s.heap.get? b = some o → h'.get? b = some o) : Sp w s₀ W { s with heap := h', toks := t } := by
  have hat : ∀ p ∈ W, ∃ o, h'.get? p.1 = some o ∧ p.2.Is w.params o := fun p hp => let ⟨o, e, x⟩ := S.at_ p hp; ⟨o, k _ _ e, x⟩
  obtain ⟨o, e, _⟩ := hat p hp
  exact ⟨S.gd, S.rest, fun b o e => k b o (S.keep b o e), hat, S.nodup, S.out, Nat.le_trans (S.out p hp) (Nat.le_of_lt (Heap.lt_size e))⟩
theorem minI {p : Addr × SO} {i j : Int} {t u : Tok} (S : Sp w s₀ W s) (hp : p ∈ W) (hh : A.handled = none) (h : ∀ t s', Sp w s₀ W s' → Q (.int (min i j) t) s') : wpAny (model pg w) A (call (.builtin "min") [.int i t, .int j u]) Q E s := by
  refine min_two_ints hh fun h' tk hk => ?_
  have S' := S.grew hp (t := tk) hk
  by_cases q : j < i
  · rw [if_pos q, show j = min i j by lia]; exact h _ _ S'
  · rw [if_neg q]; have := h t _ S'; rwa [show min i j = i by lia] at this
theorem maxI {p : Addr × SO} {i j : Int} {t u : Tok} (S : Sp w s₀ W s) (hp : p ∈ W) (hh : A.handled = none) (h : ∀ t s', Sp w s₀ W s' → Q (.int (max i j) t) s') : wpAny (model pg w) A (call (.builtin "max") [.int i t, .int j u]) Q E s := by
  refine max_two_ints hh fun h' tk hk => ?_
  have S' := S.grew hp (t := tk) hk
  by_cases q : j > i
  · rw [if_pos q]; have := h u _ S'; rwa [show max i j = j by lia] at this
  · rw [if_neg q]; have := h t _ S'; rwa [show max i j = i by lia] at this
theorem cutN {st : Stmt} {rest : List Stmt} {Q : Flow → Shared → Prop} (P : Shared → Prop) (h1 : wpAny (model pg w) A (exec st env) (fun f s => f = .next ∧ P s) (fun _ _ => False) s) (h2 : ∀ s, P s → wpAny (model pg w) A (execs rest env) Q E s) : wpAny (model pg w) A (execs (st :: rest) env) Q E s :=
  wpAny_execs_cons (wpAny_mono h1 (fun f s z => by obtain ⟨rfl, z⟩ := z; exact h2 s z) fun _ _ z => z.elim)
noncomputable def plc (n i : Int) : Int := min (if i < 0 then i + n else i) n
theorem mX {p : Addr × SO} (h : p ∈ R) : p ∈ X ++ R := List.mem_append_right _ h
theorem splice_place_spec {n i : Int} {t u : Tok} (S : Sp w s₀ (X ++ R) s) (hA : Rm A 1) (hi : 0 ≤ i ∨ 0 ≤ i + n) (h : ∀ t s', Sp w s₀ (X ++ R) s' → Q (.int (plc n i) t) s') : wpAny (model pg w) A (call (.ref 327) [.int n t, .int i u]) Q E s := by
  refine callS [(k "offset", .int i u), (k "size", .int n t)] S hA.lt rfl (by kernel_rfl) (BindsTo.of_eq rfl) (fun L s1 S1 => ?_)
  refine cutN (fun s => ∃ j u', (if i < 0 then i + n else i) = j ∧ Sp w s₀ (X ++ ((L, .ns [(k "offset", .int j u'), (k "size", .int n t)]) :: R)) s) ?_ ?_
  · refine wpAny_If (wpAny_isTrue_Compare1 (nmL S1 (mX (.head _)) rfl (wpAny_Constant_int (PyProof.Rows.lt_int (wpAny_truthy_bool ?_)))))
    have S2 := S1.toks (s1.toks + 1)
    by_cases q : i < 0
    · simp only [decide_eq_true q, if_true]
      refine wpAny_execs_cons (wpAny_AugAssign_Name (ldL S2 (mX (.head _)) rfl (nmL S2 (mX (.head _)) rfl (PyProof.Rows.iadd_int ?_))))
      refine stL (S2.toks _) (Upd.right .head) fun s3 S3 => ?_
      refine wpAny_execs_cons (wpAny_If (wpAny_isTrue_Compare1 (nmL S3 (mX (.head _)) rfl (wpAny_Constant_int (PyProof.Rows.lt_int (wpAny_truthy_bool ?_))))))
      rw [decide_eq_false (by lia)]
      exact wpAny_execs_nil (wpAny_execs_nil ⟨rfl, _, _, if_pos q, S3.toks _⟩)
    · simp only [decide_eq_false q]
      exact wpAny_execs_nil ⟨rfl, _, _, if_neg q, S2⟩
  · rintro s2 ⟨j, u', hj, S2⟩
    refine wpAny_execs_cons (wpAny_Return_some (callN (nmB (v := .builtin "min") S2 (by kernel_rfl) (by kernel_rfl) (bi2 (nmL S2 (mX (.head _)) rfl (nmL S2 (mX (.head _)) rfl ?_))))))
    exact minI S2 (mX (.head _)) hA.2.2 fun t s3 S3 => by unfold plc at h; rw [hj] at h; exact h _ _ S3.out1
end
end Mine
end
section
open PySem PySem.W PySem.Calls PyProof.Rows
set_option maxRecDepth 100000
namespace Mine
noncomputable def newIts : Nat → List Sc → List (Option It)
  | _, [] => []
  | n, c :: cs => some ⟨n, c.a⟩ :: newIts (n + 1) cs
theorem newIts_val : ∀ {n : Nat} {cs : List Sc}, (newIts n cs).map itV = cs.map fun c => .ref c.a
  | _, [] => rfl
  | n, c :: cs => by rw [newIts, List.map_cons, newIts_val]; rfl
theorem newIts_len : ∀ {n : Nat} {cs : List Sc}, (newIts n cs).length = cs.length
  | _, [] => rfl
  | n, c :: cs => by rw [newIts, List.length_cons, newIts_len]; rfl
theorem takes_cc (σ : Dm) (ds : List DV) : ∃ x y, σ.takes ds = { σ with c0 := x, c1 := y } := by
  induction ds generalizing σ with
  | nil => exact ⟨_, _, rfl⟩
  | cons d ds ih =>
    have : ∃ x y, σ.take d = { σ with c0 := x, c1 := y } := by
      cases d with
      | rf f => unfold Dm.take Dm.addc; dsimp only; split <;> exact ⟨_, _, rfl⟩
      | _ => exact ⟨_, _, rfl⟩
    obtain ⟨x, y, e⟩ := this
    obtain ⟨x', y', e'⟩ := ih (σ.take d)
    exact ⟨x', y', by show (σ.take d).takes ds = _; rw [e', e]⟩
theorem tn (σ : Dm) (ds : List DV) (cs : List Sc) : ∃ x y, (σ.takes ds).newc cs = { σ with c0 := x, c1 := y, last := σ.last + cs.length, scs := σ.scs ++ cs } := by
  obtain ⟨x, y, e⟩ := takes_cc σ ds
  exact ⟨x, y, by rw [e]; rfl⟩
noncomputable def lvV : Option Int → Value
  | none => .none
  | some i => vi i
noncomputable def cntI (n b : Int) : Option Int → Int
  | none => n - b
  | some l => if l < 0 then max (n - b + l) 0 else min l (n - b)
theorem sbR {a c n : Nat} (h1 : a ≤ c) (h2 : c ≤ n) : sliceBounds (some (a : Int)) (some (c : Int)) none n = ((a : Int), (c : Int), 1) := by
  simp only [sliceBounds, Option.getD_none]
  have q1 : ¬ ((a : Int) < 0) := by lia
  have q2 : ¬ ((c : Int) < 0) := by lia
  simp only [q1, q2, if_false, show (1 : Int) > 0 by decide, if_true]
  congr 1
  · lia
  · congr 1; lia
theorem sbF {a n : Nat} (h1 : a ≤ n) : sliceBounds (some (a : Int)) none none n = ((a : Int), (n : Int), 1) := by
  simp only [sliceBounds, Option.getD_none]
  have q1 : ¬ ((a : Int) < 0) := by lia
  simp only [q1, if_false, show (1 : Int) > 0 by decide, if_true]
  congr 1; lia
section
variable {w : World} {s₀ s : Shared} {W W' X R : Led} {A : Around} {E : Value → Shared → Prop} {Q : Value → Shared → Prop} {env : Env} {σ : Dm} {b : Bool}
theorem Sp.ne2 {a c : Addr} {x y : SO} (S : Sp w s₀ (X ++ R) s) (ha : (a, x) ∈ X) (hc : (c, y) ∈ R) : a ≠ c := fun q => by
  have hn := S.nodup
  rw [List.map_append, List.nodup_append] at hn
  exact hn.2.2 _ (List.mem_map.mpr ⟨_, ha, rfl⟩) _ (List.mem_map.mpr ⟨_, hc, rfl⟩) q
theorem asX {p : Addr × SO} (h : p ∈ objs σ ++ []) : p ∈ objs σ := by rwa [List.append_nil] at h
theorem splice_count_spec {n c : Int} {l : Option Int} {v : Value} {t u : Tok} (S : Sp w s₀ (X ++ R) s) (hA : Rm A 1) (hv : er v = lvV l) (h : ∀ t s', Sp w s₀ (X ++ R) s' → Q (.int (cntI n c l) t) s') : wpAny (model pg w) A (call (.ref 334) [.int n t, .int c u, v]) Q E s := by
  refine callS [(k "length", v), (k "begin", .int c u), (k "size", .int n t)] S hA.lt rfl (by kernel_rfl) (BindsTo.of_eq rfl) (fun L s1 S1 => ?_)
  refine wpAny_execs_cons (asgL S1 (wpAny_BinOp (nmL S1 (mX (.head _)) rfl (nmL S1 (mX (.head _)) rfl (PyProof.Rows.sub_int ⟨_, _, L, _, S1.toks _, Upd.right .head, rfl, fun s2 S2 => ?_⟩)))))
  refine wpAny_execs_cons (wpAny_If (wpAny_isTrue_Compare1 (nmL S2 (mX (.head _)) rfl (wpAny_Constant_none (is_none_gen (wpAny_truthy_bool ?_))))))
  cases l with
  | none =>
    obtain rfl := er_none hv
    exact wpAny_execs_cons (wpAny_Return_some (nmL S2 (mX (.head _)) rfl (h _ _ S2.out1)))
  | some i =>
    obtain ⟨t', rfl⟩ := er_int hv
    refine wpAny_execs_nil (wpAny_execs_cons (wpAny_If (wpAny_isTrue_Compare1 (nmL S2 (mX (.head _)) rfl (wpAny_Constant_int (PyProof.Rows.lt_int (wpAny_truthy_bool ?_)))))))
    have S3 := S2.toks (s2.toks + 1)
    unfold cntI at h
    by_cases q : i < 0
    · simp only [decide_eq_true q, if_true]
      simp only [if_pos q] at h
      refine wpAny_execs_cons (wpAny_Return_some (callN (nmB (v := .builtin "max") S3 (by kernel_rfl) (by kernel_rfl) (bi2 (wpAny_BinOp (nmL S3 (mX (.head _)) rfl (nmL S3 (mX (.head _)) rfl (PyProof.Rows.add_int (wpAny_Constant_int ?_)))))))))
      exact maxI ((S3.toks _).toks _) (mX (.head _)) hA.2.2 fun t s4 S4 => h _ _ S4.out1
    · simp only [decide_eq_false q]
      simp only [if_neg q] at h
      refine wpAny_execs_nil (wpAny_execs_cons (wpAny_Return_some (callN (nmB (v := .builtin "min") S3 (by kernel_rfl) (by kernel_rfl) (bi2 (nmL S3 (mX (.head _)) rfl (nmL S3 (mX (.head _)) rfl ?_)))))))
      exact minI S3 (mX (.head _)) hA.2.2 fun t s4 S4 => h _ _ S4.out1
theorem check_room_ok {A₀ : Ad} {n : Int} {t : Tok} (S : Sp w s₀ (objs σ ++ R) s) (hA : Rm A 1) (hn : n ≤ 7) (h : ∀ s', Sp w s₀ (objs σ ++ R) s' → Q .none s') (eA₀ : σ.A = A₀ := by rfl) : wpAny (model pg w) A (call (.ref 292) [.ref A₀.ctr, .int n t]) Q E s := by
  subst eA₀
  refine callS [(k "size", .int n t), (k "counter", .ref σ.A.ctr)] S hA.lt rfl (by kernel_rfl) (BindsTo.of_eq rfl) (fun L s1 S1 => ?_)
  refine wpAny_execs_cons (wpAny_If (wpAny_isTrue_Compare1 (nmL S1 (mR (.head _)) rfl (Attribute_any_ (Attribute_any_ (Attribute_any_ (nmL S1 (mR (.head _)) rfl ?_)))))))
  refine getAr S1 (mF (i := 3) rfl) (mF (i := 4) rfl) rfl (by kernel_rfl) fun s2 S2 => ?_
  refine getAr S2 (mF (i := 7) rfl) (mF (i := 8) rfl) rfl (by kernel_rfl) fun s3 S3 => ?_
  refine getA S3 (mF (i := 9) rfl) (mF (i := 10) rfl) rfl (by kernel_rfl) fun v4 s4 ev S4 => ?_
  obtain ⟨t4, rfl⟩ := er_int ev
  refine PyProof.Rows.gt_int (wpAny_truthy_bool ?_)
  rw [decide_eq_false (by lia)]
  exact wpAny_execs_nil (wpAny_execs_nil (h _ S4.out1))
end
end Mine
end
section
open PySem PySem.W PySem.Calls PyProof.Rows
set_option maxRecDepth 100000
namespace Mine
section
variable {w : World} {s₀ s : Shared} {W W' X R : Led} {A : Around} {E : Value → Shared → Prop} {Q : Value → Shared → Prop} {env : Env} {σ : Dm} {b : Bool}
noncomputable def Dm.made (σ : Dm) (ds : List DV) (cs : List Sc) : Dm := (σ.takes ds).newc cs
theorem made_eq (σ : Dm) (ds : List DV) (cs : List Sc) : ∃ x y, σ.made ds cs = { σ with c0 := x, c1 := y, last := σ.last + cs.length, scs := σ.scs ++ cs } := tn σ ds cs
theorem made_f (σ : Dm) (ds : List DV) (cs : List Sc) : (σ.made ds cs).A = σ.A ∧ (σ.made ds cs).ip b = σ.ip b ∧ (σ.made ds cs).it b = σ.it b := by
  obtain ⟨x, y, e⟩ := made_eq σ ds cs
  rw [e]; exact ⟨rfl, rfl, rfl⟩
theorem arU' {p : Addr} {xs its : List (Option It)} (hp : σ.ip b = p) (hx : σ.it b = xs) : Upd (objs σ ++ R) p (.list (xs.map itV)) (.list (its.map itV)) (objs (σ.setIt b its) ++ R) := hp ▸ hx ▸ arU
theorem arUA {p : Addr} {xs ys : List (Option It)} (hp : σ.ip b = p) (hx : σ.it b = xs) : Upd (objs σ ++ R) p (.list (xs.map itV)) (.list (xs.map itV ++ ys.map itV)) (objs (σ.setIt b (xs ++ ys)) ++ R) := by
  rw [← List.map_append]; exact arU' hp hx
theorem arL' {p : Addr} {xs : List (Option It)} (hp : σ.ip b = p) (hx : σ.it b = xs) : (p, SO.list (xs.map itV)) ∈ objs σ ++ R := hp ▸ hx ▸ arL
theorem getItems' {A₀ : Ad} {p : Addr} {ex : Bool} (S : Sp w s₀ (objs σ ++ R) s) (hA₀ : σ.A = A₀) (hp : σ.ip b = p) (h : ∀ s', Sp w s₀ (objs σ ++ R) s' → Q (.ref p) s') : wpAny (model pg w) A (getAttr (.ref (A₀.ar b)) (k "items") ex) Q E s := by
  subst hA₀; subst hp; exact getItems S h
theorem setIt_it {its : List (Option It)} : (σ.setIt b its).it b = its ∧ (σ.setIt b its).ip b = σ.ip b ∧ (σ.setIt b its).A = σ.A := by cases b <;> exact ⟨rfl, rfl, rfl⟩
theorem push_ok {ds : List DV} {vl : Addr} (S : Sp w s₀ (objs σ ++ R) s) (hA : Rm A 9) (hl : (vl, .list (ds.map DV.val)) ∈ R) (ok : ∀ x ∈ ds, x.ok σ) (hz : (σ.it b).length + ds.length ≤ 7)
    (h : ∀ cs t s', newOk σ.last ds cs → Sp w s₀ (objs ((σ.made ds cs).setIt b (σ.it b ++ newIts σ.scs.length cs)) ++ R) s' → Q (.int ((σ.it b).length + ds.length : Nat) t) s') :
    wpAny (model pg w) A (call (.ref 299) [.ref σ.A.ctr, .ref (σ.A.ar b), .ref vl]) Q E s := by
  refine callS [(k "values", .ref vl), (k "array", .ref (σ.A.ar b)), (k "counter", .ref σ.A.ctr)] S hA.lt rfl (by kernel_rfl) (BindsTo.of_eq rfl) (fun L s1 S1 => ?_)
  refine wpAny_execs_cons (wpAny_Expr (callN (nmG (v := .ref 292) S1 (by kernel_rfl) (df2 S1 (by kernel_rfl) (nmL S1 (mR (.head _)) rfl ?_)))))
  refine wpAny_BinOp (callN (nmB (v := .builtin "len") S1 (by kernel_rfl) (by kernel_rfl) (bi1 (Attribute_any_ (nmL S1 (mR (.head _)) rfl (getItems S1 fun s2 S2 => ?_))))))
  refine lenL S2 arL (fun t s3 S3 => ?_) (by rw [List.length_map]; lia)
  refine callN (nmB (v := .builtin "len") S3 (by kernel_rfl) (by kernel_rfl) (bi1 (nmL S3 (mR (.head _)) rfl ?_)))
  refine lenL S3 (mR (.tail _ hl)) (fun t s4 S4 => ?_) (by rw [List.length_map]; lia)
  refine PyProof.Rows.add_int ⟨⟨_, S4.toks _⟩, check_room_ok (S4.toks _) ((hA.down _).le (by decide)) (by simp only [List.length_map]; lia) fun s5 S5 => ?_⟩
  refine wpAny_execs_cons (wpAny_Expr (callM (Attribute_any_ (nmL S5 (mR (.head _)) rfl (getItems S5 fun s6 S6 => mtExtend S6 arL (extendM S6 ?_))))))
  refine callN (nmG (v := .ref 273) S6 (by kernel_rfl) (df2 S6 (by kernel_rfl) (nmL S6 (mR (.head _)) rfl (nmL S6 (mR (.head _)) rfl ⟨⟨_, S6⟩, ?_⟩))))
  refine fresh_scalars_spec S6 ((hA.down _).le (by decide)) (.tail _ hl) ok (by lia) fun cs l s7 hn S7 => ?_
  have hcl := newOk_len hn
  obtain ⟨eA, ep, ei⟩ := made_f (b := b) σ ds cs
  refine ⟨_, _, (σ.it b).map itV, l, (newIts σ.scs.length cs).map itV, rfl, S7, mR (by rw [newIts_val]; exact .head _), arUA ep ei, by rw [List.length_map]; lia, by rw [List.length_map, newIts_len, hcl]; lia, fun s8 S8 => ?_⟩
  · obtain ⟨e1, e2, e3⟩ := setIt_it (σ := σ.made ds cs) (b := b) (its := σ.it b ++ newIts σ.scs.length cs)
    refine wpAny_execs_cons (wpAny_Return_some (callN (nmB (v := .builtin "len") S8 (by kernel_rfl) (by kernel_rfl) (bi1 (Attribute_any_ (nmL S8 (mR (.tail _ (.head _))) rfl (getItems' (p := σ.ip b) S8 (e3.trans eA) (e2.trans ep) fun s9 S9 => ?_)))))))
    refine lenL S9 (xs := (σ.it b ++ newIts σ.scs.length cs).map itV) (arL' (e2.trans ep) e1) (fun t s10 S10 => ?_) (by rw [List.length_map, List.length_append, newIts_len, hcl]; lia)
    rw [List.length_map, List.length_append, newIts_len, hcl]
    exact h cs t s10 hn (S10.sub (.append_left (.cons _ (.cons _ (.refl _))) _))
end
end Mine
end
section
open PySem PySem.W PySem.Calls PyProof.Rows
set_option maxRecDepth 100000
namespace Mine
section
variable {w : World} {s₀ s : Shared} {W W' X R : Led} {A : Around} {E : Value → Shared → Prop} {Q : Value → Shared → Prop} {env : Env} {σ : Dm} {b : Bool}
theorem ipX {p : Addr} (hp : σ.ip b = p) : (p, SO.list ((σ.it b).map itV)) ∈ objs σ := by have := arL (σ := σ) (b := b) (R := []); rw [List.append_nil, hp] at this; exact this
theorem arUz {p : Addr} {xs its : List (Option It)} {ys zs : List Value} (hp : σ.ip b = p) (hx : σ.it b = xs) (hy : xs.map itV = ys) (hz : its.map itV = zs) : Upd (objs σ ++ R) p (.list ys) (.list zs) (objs (σ.setIt b its) ++ R) := hy ▸ hz ▸ arU' hp hx
theorem unshift_ok {ds : List DV} {vl : Addr} (S : Sp w s₀ (objs σ ++ R) s) (hA : Rm A 9) (hl : (vl, .list (ds.map DV.val)) ∈ R) (ok : ∀ x ∈ ds, x.ok σ) (hz : (σ.it b).length + ds.length ≤ 7)
    (h : ∀ cs t s', newOk σ.last ds cs → Sp w s₀ (objs ((σ.made ds cs).setIt b (newIts σ.scs.length cs ++ σ.it b)) ++ R) s' → Q (.int ((σ.it b).length + ds.length : Nat) t) s') :
    wpAny (model pg w) A (call (.ref 306) [.ref σ.A.ctr, .ref (σ.A.ar b), .ref vl]) Q E s := by
  refine callS [(k "values", .ref vl), (k "array", .ref (σ.A.ar b)), (k "counter", .ref σ.A.ctr)] S hA.lt rfl (by kernel_rfl) (BindsTo.of_eq rfl) (fun L s1 S1 => ?_)
  refine wpAny_execs_cons (wpAny_Expr (callN (nmG (v := .ref 292) S1 (by kernel_rfl) (df2 S1 (by kernel_rfl) (nmL S1 (mR (.head _)) rfl ?_)))))
  refine wpAny_BinOp (callN (nmB (v := .builtin "len") S1 (by kernel_rfl) (by kernel_rfl) (bi1 (Attribute_any_ (nmL S1 (mR (.head _)) rfl (getItems S1 fun s2 S2 => ?_))))))
  refine lenL S2 arL (fun t s3 S3 => ?_) (by rw [List.length_map]; lia)
  refine callN (nmB (v := .builtin "len") S3 (by kernel_rfl) (by kernel_rfl) (bi1 (nmL S3 (mR (.head _)) rfl ?_)))
  refine lenL S3 (mR (.tail _ hl)) (fun t s4 S4 => ?_) (by rw [List.length_map]; lia)
  refine PyProof.Rows.add_int ⟨⟨_, S4.toks _⟩, check_room_ok (S4.toks _) ((hA.down _).le (by decide)) (by simp only [List.length_map]; lia) fun s5 S5 => ?_⟩
  refine wpAny_execs_cons (asgSl (s₀ := s₀) (callN (nmG (v := .ref 273) S5 (by kernel_rfl) (df2 S5 (by kernel_rfl) (nmL S5 (mR (.head _)) rfl (nmL S5 (mR (.head _)) rfl ⟨⟨_, S5⟩, ?_⟩))))))
  refine fresh_scalars_spec S5 ((hA.down _).le (by decide)) (.tail _ hl) ok (by lia) fun cs l s7 hn S7 => ?_
  have hcl := newOk_len hn
  obtain ⟨eA, ep, ei⟩ := made_f (b := b) σ ds cs
  refine Attribute_any_ (nmL S7 (mR (.tail _ (.head _))) rfl (getItems' (p := σ.ip b) S7 eA ep fun s8 S8 => evalPart_some_step (wpAny_Constant_int (evalPart_some_step (wpAny_Constant_int ?_)))))
  have S9 := (S8.toks (s8.toks + 1)).toks (s8.toks + 1 + 1)
  refine ⟨_, _, σ.ip b, l, (σ.it b).map itV, (newIts σ.scs.length cs).map itV, some 0, some 0, 0, 0, rfl, rfl, S9, mR (by rw [newIts_val]; exact .head _), .int _ _, .int _ _, sbR (Nat.le_refl _) (Nat.zero_le _), Nat.le_refl _, by rw [List.length_map]; lia, by rw [List.length_map, newIts_len, hcl]; lia, S9.ne2 (ipX ep) (.head _), arUz (its := newIts σ.scs.length cs ++ σ.it b) ep ei rfl (by rw [List.map_append]; rfl), fun s10 S10 => ?_⟩
  · obtain ⟨e1, e2, e3⟩ := setIt_it (σ := σ.made ds cs) (b := b) (its := newIts σ.scs.length cs ++ σ.it b)
    refine wpAny_execs_cons (wpAny_Return_some (callN (nmB (v := .builtin "len") S10 (by kernel_rfl) (by kernel_rfl) (bi1 (Attribute_any_ (nmL S10 (mR (.tail _ (.head _))) rfl (getItems' (p := σ.ip b) S10 (e3.trans eA) (e2.trans ep) fun s11 S11 => ?_)))))))
    refine lenL S11 (xs := (newIts σ.scs.length cs ++ σ.it b).map itV) (arL' (e2.trans ep) e1) (fun t s12 S12 => ?_) (by rw [List.length_map, List.length_append, newIts_len, hcl]; lia)
    rw [List.length_map, List.length_append, newIts_len, hcl, Nat.add_comm]
    exact h cs t s12 hn (S12.sub (.append_left (.cons _ (.cons _ (.refl _))) _))
noncomputable def Dm.ok1 (σ : Dm) (o : Option It) : Prop := ∀ t, o = some t → ∃ c, σ.At t c ∧ c.cnt = 1
theorem setIt_at {t : It} {c : Sc} {its : List (Option It)} (h : σ.At t c) : (σ.setIt b its).At t c := by cases b <;> exact h
theorem setIt_vl {o : Option It} {its : List (Option It)} : (σ.setIt b its).vl o = σ.vl o := by cases b <;> cases o <;> rfl
theorem setIt_zero {its : List (Option It)} : (σ.setIt b its).zero = σ.zero := by cases b <;> rfl
theorem pop_nil (S : Sp w s₀ (objs σ ++ R) s) (hA : Rm A 1) (he : σ.it b = []) (h : ∀ s', Sp w s₀ (objs σ ++ R) s' → Q .none s') : wpAny (model pg w) A (call (.ref 313) [.ref σ.A.ctr, .ref (σ.A.ar b)]) Q E s := by
  refine callS [(k "array", .ref (σ.A.ar b)), (k "counter", .ref σ.A.ctr)] S hA.lt rfl (by kernel_rfl) (BindsTo.of_eq rfl) (fun L s1 S1 => ?_)
  refine wpAny_execs_cons (wpAny_If (wpAny_isTrue_Compare1 (Attribute_any_ (nmL S1 (mR (.head _)) rfl (getItems S1 fun s2 S2 => List_ (wpAny_items_nil (newL S2 fun n s3 S3 => ?_)))))))
  refine eqNil S3 (hA.down _).cl (.tail _ arL) (.head _) (wpAny_truthy_bool ?_)
  rw [he]
  exact wpAny_execs_cons (wpAny_Return_some (wpAny_Constant_none (h _ (S3.sub (.cons _ ((List.sublist_cons_self _ R).append_left _))))))
theorem pop_ok {xs : List (Option It)} {o : Option It} (S : Sp w s₀ (objs σ ++ R) s) (hA : Rm A 6) (he : σ.it b = xs ++ [o]) (ho : σ.ok1 o) (hz : xs.length ≤ 900) (hz2 : σ.zero.length ≤ 1000)
    (h : ∀ u s', er u = (σ.vl o).val → Sp w s₀ (objs ((σ.setIt b xs).drop1 o) ++ R) s' → Q u s') : wpAny (model pg w) A (call (.ref 313) [.ref σ.A.ctr, .ref (σ.A.ar b)]) Q E s := by
  refine callS [(k "array", .ref (σ.A.ar b)), (k "counter", .ref σ.A.ctr)] S hA.lt rfl (by kernel_rfl) (BindsTo.of_eq rfl) (fun L s1 S1 => ?_)
  refine wpAny_execs_cons (wpAny_If (wpAny_isTrue_Compare1 (Attribute_any_ (nmL S1 (mR (.head _)) rfl (getItems S1 fun s2 S2 => List_ (wpAny_items_nil (newL S2 fun n s3 S3 => ?_)))))))
  refine eqNil S3 (hA.down _).cl (.tail _ arL) (.head _) (wpAny_truthy_bool ?_)
  rw [he]
  have hne : (List.map itV (xs ++ [o])).isEmpty = false := by simp
  rw [hne]
  have S4 := S3.sub (List.sublist_cons_self _ _)
  refine wpAny_execs_nil (wpAny_execs_cons (wpAny_Return_some (callN (nmG (v := .ref 280) S4 (by kernel_rfl) (df2 S4 (by kernel_rfl) (nmL S4 (mR (.head _)) rfl ?_))))))
  refine callM (Attribute_any_ (nmL S4 (mR (.head _)) rfl (getItems S4 fun s5 S5 => mtPop S5 arL (popM (xs := xs.map itV) (x := itV o) S5 (arUz (its := xs) rfl he (by rw [List.map_append]; rfl) rfl) (by rw [List.length_map]; exact hz) fun v s6 hv S6 => ?_))))
  · refine ⟨⟨_, S6⟩, drop_member_spec S6 ((hA.down _).le (by decide)) hv (fun t e => ?_) (by rw [setIt_zero]; exact hz2) (fun u s7 hu S7 => h u _ (by rw [hu, setIt_vl]) S7.out1) setIt_it.2.2⟩
    obtain ⟨c, hc, h1⟩ := ho t e
    exact ⟨c, setIt_at hc, h1⟩
theorem shift_nil (S : Sp w s₀ (objs σ ++ R) s) (hA : Rm A 1) (he : σ.it b = []) (h : ∀ s', Sp w s₀ (objs σ ++ R) s' → Q .none s') : wpAny (model pg w) A (call (.ref 320) [.ref σ.A.ctr, .ref (σ.A.ar b)]) Q E s := by
  refine callS [(k "array", .ref (σ.A.ar b)), (k "counter", .ref σ.A.ctr)] S hA.lt rfl (by kernel_rfl) (BindsTo.of_eq rfl) (fun L s1 S1 => ?_)
  refine wpAny_execs_cons (wpAny_If (wpAny_isTrue_Compare1 (Attribute_any_ (nmL S1 (mR (.head _)) rfl (getItems S1 fun s2 S2 => List_ (wpAny_items_nil (newL S2 fun n s3 S3 => ?_)))))))
  refine eqNil S3 (hA.down _).cl (.tail _ arL) (.head _) (wpAny_truthy_bool ?_)
  rw [he]
  exact wpAny_execs_cons (wpAny_Return_some (wpAny_Constant_none (h _ (S3.sub (.cons _ ((List.sublist_cons_self _ R).append_left _))))))
theorem shift_ok {xs : List (Option It)} {o : Option It} (S : Sp w s₀ (objs σ ++ R) s) (hA : Rm A 6) (he : σ.it b = o :: xs) (ho : σ.ok1 o) (hz : xs.length ≤ 900) (hz2 : σ.zero.length ≤ 1000)
    (h : ∀ u s', er u = (σ.vl o).val → Sp w s₀ (objs ((σ.setIt b xs).drop1 o) ++ R) s' → Q u s') : wpAny (model pg w) A (call (.ref 320) [.ref σ.A.ctr, .ref (σ.A.ar b)]) Q E s := by
  refine callS [(k "array", .ref (σ.A.ar b)), (k "counter", .ref σ.A.ctr)] S hA.lt rfl (by kernel_rfl) (BindsTo.of_eq rfl) (fun L s1 S1 => ?_)
  refine wpAny_execs_cons (wpAny_If (wpAny_isTrue_Compare1 (Attribute_any_ (nmL S1 (mR (.head _)) rfl (getItems S1 fun s2 S2 => List_ (wpAny_items_nil (newL S2 fun n s3 S3 => ?_)))))))
  refine eqNil S3 (hA.down _).cl (.tail _ arL) (.head _) (wpAny_truthy_bool ?_)
  rw [he]
  have S4 := S3.sub (List.sublist_cons_self _ _)
  refine wpAny_execs_nil (wpAny_execs_cons (wpAny_Return_some (callN (nmG (v := .ref 280) S4 (by kernel_rfl) (df2 S4 (by kernel_rfl) (nmL S4 (mR (.head _)) rfl ?_))))))
  refine callM (Attribute_any_ (nmL S4 (mR (.head _)) rfl (getItems S4 fun s5 S5 => mtPop S5 arL (popIM S5 (wpAny_Constant_int ?_)))))
  refine ⟨_, _, itV o, xs.map itV, _, rfl, S5.toks _, arU' (its := xs) rfl he, by rw [List.length_map]; exact hz, fun v s6 hv S6 => ?_⟩
  refine ⟨⟨_, S6⟩, drop_member_spec S6 ((hA.down _).le (by decide)) hv (fun t e => ?_) (by rw [setIt_zero]; exact hz2) (fun u s7 hu S7 => h u _ (by rw [hu, setIt_vl]) S7.out1) setIt_it.2.2⟩
  obtain ⟨c, hc, h1⟩ := ho t e
  exact ⟨c, setIt_at hc, h1⟩
end
end Mine
end
section
open PySem PySem.W PySem.Calls PyProof.Rows
set_option maxRecDepth 100000
namespace Mine
section
variable {w : World} {s₀ s : Shared} {W W' X R : Led} {A : Around} {E : Value → Shared → Prop} {Q : Value → Shared → Prop} {env : Env} {σ : Dm} {b : Bool}
theorem set2 {l : Addr} {its : List (Option It)} : ((σ.setIp b l).setIt b its).A = σ.A ∧ ((σ.setIp b l).setIt b its).zero = σ.zero ∧ ((σ.setIp b l).setIt b its).scs = σ.scs ∧ ((σ.setIp b l).setIt b its).ip b = l ∧ ((σ.setIp b l).setIt b its).it b = its := by cases b <;> exact ⟨rfl, rfl, rfl, rfl, rfl⟩
theorem at_scs {σ' : Dm} {t : It} {c : Sc} (e : σ'.scs = σ.scs) (h : σ.At t c) : σ'.At t c := ⟨e ▸ h.1, h.2⟩
theorem clear_ok {A₀ : Ad} (S : Sp w s₀ (objs σ ++ R) s) (hA : Rm A 8) (ho : σ.live (σ.it b)) (hn : (ixs (σ.it b)).Nodup) (hz : σ.zero.length + (σ.it b).length ≤ 1000) (hz2 : (σ.it b).length ≤ 900)
    (h : ∀ l s', Sp w s₀ (objs (((σ.setIp b l).setIt b []).drops (σ.it b)) ++ R) s' → Q .none s') (eA₀ : σ.A = A₀ := by rfl) : wpAny (model pg w) A (call (.ref 383) [.ref A₀.ctr, .ref (A₀.ar b)]) Q E s := by
  subst eA₀
  refine callS [(k "array", .ref (σ.A.ar b)), (k "counter", .ref σ.A.ctr)] S hA.lt rfl (by kernel_rfl) (BindsTo.of_eq rfl) (fun L s1 S1 => ?_)
  refine wpAny_execs_cons (asgL S1 (Attribute_any_ (nmL S1 (mR (.head _)) rfl (getItems S1 fun s2 S2 => ⟨_, _, L, _, S2, uR .head, rfl, fun s3 S3 => ?_⟩))))
  refine wpAny_execs_cons (asg (List_ (wpAny_items_nil (newL S3 fun l s4 S4 => nmL S4 (.tail _ (mR (.head _))) rfl ?_))))
  refine setItems (its := []) S4.inn fun s5 S5 => ?_
  obtain ⟨e1, e2, e3, e4, e5⟩ := set2 (σ := σ) (b := b) (l := l) (its := [])
  refine wpAny_execs_cons (wpAny_Expr_any (callN (nmG (v := .ref 285) S5 (by kernel_rfl) (df2 S5 (by kernel_rfl) (nmL S5 (mR (.tail _ (.head _))) rfl (nmL S5 (mR (.tail _ (.head _))) rfl ⟨⟨_, S5⟩, ?_⟩))))))
  refine drop_members_spec S5 ((hA.down _).le (by decide)) (.head _) (fun t ht => ?_) hn (by rw [e2]; exact hz) hz2 (fun l' s6 S6 => ?_) e1
  · obtain ⟨c, hc, h1⟩ := ho t ht
    exact ⟨c, at_scs e3 hc, h1⟩
  · refine wpAny_execs_nil ?_
    exact h l _ (S6.sub (.append_left (.cons _ (.cons _ (.cons _ (.refl _)))) _))
theorem fill_ok {ds : List DV} {vl : Addr} (S : Sp w s₀ (objs σ ++ R) s) (hA : Rm A 10) (hl : (vl, .list (ds.map DV.val)) ∈ R) (ok : ∀ x ∈ ds, x.ok σ) (hz : ds.length ≤ 7) (ho : σ.live (σ.it b)) (hn : (ixs (σ.it b)).Nodup) (hz1 : σ.zero.length + (σ.it b).length ≤ 1000) (hz2 : (σ.it b).length ≤ 900)
    (h : ∀ cs l1 l s', newOk σ.last ds cs → Sp w s₀ (objs ((((((σ.made ds cs).setIp b l1).setIt b []).drops (σ.it b)).setIp b l).setIt b (newIts σ.scs.length cs)) ++ R) s' → Q .none s') :
    wpAny (model pg w) A (call (.ref 390) [.ref σ.A.ctr, .ref (σ.A.ar b), .ref vl]) Q E s := by
  refine callS [(k "values", .ref vl), (k "array", .ref (σ.A.ar b)), (k "counter", .ref σ.A.ctr)] S hA.lt rfl (by kernel_rfl) (BindsTo.of_eq rfl) (fun L s1 S1 => ?_)
  refine wpAny_execs_cons (wpAny_Expr (callN (nmG (v := .ref 292) S1 (by kernel_rfl) (df2 S1 (by kernel_rfl) (nmL S1 (mR (.head _)) rfl ?_)))))
  refine callN (nmB (v := .builtin "len") S1 (by kernel_rfl) (by kernel_rfl) (bi1 (nmL S1 (mR (.head _)) rfl ?_)))
  refine lenL S1 (mR (.tail _ hl)) (fun t s4 S4 => ⟨⟨_, S4⟩, check_room_ok S4 ((hA.down _).le (by decide)) (by simp only [List.length_map]; lia) fun s5 S5 => ?_⟩) (by rw [List.length_map]; lia)
  refine wpAny_execs_cons (asgL S5 (callN (nmG (v := .ref 273) S5 (by kernel_rfl) (df2 S5 (by kernel_rfl) (nmL S5 (mR (.head _)) rfl (nmL S5 (mR (.head _)) rfl ⟨⟨_, S5⟩, ?_⟩))))))
  refine fresh_scalars_spec S5 ((hA.down _).le (by decide)) (.tail _ hl) ok (by lia) fun cs l s6 hn' S6 => ⟨_, _, L, _, S6, uR (.tail .head), rfl, fun s7 S7 => ?_⟩
  obtain ⟨x, y, em⟩ := made_eq σ ds cs
  obtain ⟨eA, ep, ei⟩ := made_f (b := b) σ ds cs
  refine wpAny_execs_cons (wpAny_Expr (callN (nmG (v := .ref 383) S7 (by kernel_rfl) (df2 S7 (by kernel_rfl) (nmL S7 (mR (.tail _ (.head _))) rfl (nmL S7 (mR (.tail _ (.head _))) rfl ⟨⟨_, S7⟩, ?_⟩))))))
  change Sp w s₀ (objs (σ.made ds cs) ++ _) s7 at S7
  refine clear_ok (σ := σ.made ds cs) S7 ((hA.down _).le (by decide)) ?_ (by rw [ei]; exact hn) (by rw [ei, em]; exact hz1) (by rw [ei]; exact hz2) (fun l1 s8 S8 => ?_) eA
  · rw [ei]
    intro t ht
    obtain ⟨c, hc, h1⟩ := ho t ht
    refine ⟨c, ⟨?_, hc.2⟩, h1⟩
    rw [em]
    show (σ.scs ++ cs)[t.i]? = _
    rw [List.getElem?_append_left (List.getElem?_eq_some_iff.mp hc.1).1]; exact hc.1
  · rw [ei] at S8
    obtain ⟨e1, e2, e3, e4, e5⟩ := set2 (σ := σ.made ds cs) (b := b) (l := l1) (its := [])
    have eA' : ((((σ.made ds cs).setIp b l1).setIt b []).drops (σ.it b)).A = σ.A := drops_A.1.trans (e1.trans eA)
    refine wpAny_execs_cons (asg (nmL S8 (mR (.tail _ (.head _))) rfl (nmL S8 (mR (.tail _ (.head _))) rfl ?_)))
    rw [← newIts_val (n := σ.scs.length)] at S8
    have S9 := S8
    rw [← eA'] at S9 ⊢
    refine setItems (its := newIts σ.scs.length cs) S9 fun s9 S9 => ?_
    exact wpAny_execs_nil (h cs l1 l _ hn' (S9.sub (.append_left (.cons _ (.cons _ (.refl _))) _)))
end
end Mine
end
section
open PySem PySem.W PySem.Calls PyProof.Rows
set_option maxRecDepth 100000
namespace Mine
section
variable {w : World} {s₀ s : Shared} {W W' X R : Led} {A : Around} {E : Value → Shared → Prop} {Q : Value → Shared → Prop} {env : Env} {σ : Dm} {b : Bool}
theorem made_at {t : It} {c : Sc} {ds : List DV} {cs : List Sc} (h : σ.At t c) : (σ.made ds cs).At t c := by
  obtain ⟨x, y, e⟩ := made_eq σ ds cs
  rw [e]
  refine ⟨?_, h.2⟩
  show (σ.scs ++ cs)[t.i]? = _
  rw [List.getElem?_append_left (List.getElem?_eq_some_iff.mp h.1).1]; exact h.1
theorem made_vl {o : Option It} {ds : List DV} {cs : List Sc} (h : σ.has o) : (σ.made ds cs).vl o = σ.vl o := by
  cases o with
  | none => rfl
  | some t =>
    obtain ⟨c, hc⟩ := h t rfl
    rw [vl_at hc, vl_at (made_at hc)]
theorem ixs_sub {a b : List (Option It)} (h : a.Sublist b) (hn : (ixs b).Nodup) : (ixs a).Nodup := (h.filterMap _).nodup hn
noncomputable def spl (xs new : List (Option It)) (p c : Nat) : List (Option It) := xs.take p ++ new ++ xs.drop (p + c)
noncomputable def tak (xs : List (Option It)) (p c : Nat) : List (Option It) := (xs.drop p).take c
theorem tak_sub {xs : List (Option It)} {p c : Nat} : (tak xs p c).Sublist xs := (List.take_sublist ..).trans (List.drop_sublist ..)
theorem live_has {xs : List (Option It)} (h : σ.live xs) : ∀ o ∈ xs, σ.has o := fun o ho t e => by subst e; obtain ⟨c, hc, _⟩ := h t ho; exact ⟨c, hc⟩
theorem splice_ok {ds : List DV} {vl : Addr} {i : Int} {l : Option Int} {lv : Value} {u : Tok} {p c : Nat} (S : Sp w s₀ (objs σ ++ R) s) (hA : Rm A 10) (hl : (vl, .list (ds.map DV.val)) ∈ R) (ok : ∀ x ∈ ds, x.ok σ)
    (hi : 0 ≤ i ∨ 0 ≤ i + (σ.it b).length) (hp : plc (σ.it b).length i = p) (hc : cntI (σ.it b).length p l = c) (hpc : p + c ≤ (σ.it b).length) (hv : er lv = lvV l)
    (hz : (σ.it b).length - c + ds.length ≤ 7) (hz1 : σ.zero.length + (σ.it b).length ≤ 1000) (hz2 : (σ.it b).length ≤ 900) (hz3 : ds.length ≤ 900) (ho : σ.live (σ.it b)) (hn : (ixs (σ.it b)).Nodup)
    (h : ∀ cs l s', newOk σ.last ds cs → Sp w s₀ (objs (((σ.made ds cs).setIt b (spl (σ.it b) (newIts σ.scs.length cs) p c)).drops (tak (σ.it b) p c)) ++ ((l, .list ((tak (σ.it b) p c).map fun o => (σ.vl o).val)) :: R)) s' → Q (.ref l) s') :
    wpAny (model pg w) A (call (.ref 341) [.ref σ.A.ctr, .ref (σ.A.ar b), .int i u, lv, .ref vl]) Q E s := by
  refine callS [(k "values", .ref vl), (k "length", lv), (k "offset", .int i u), (k "array", .ref (σ.A.ar b)), (k "counter", .ref σ.A.ctr)] S hA.lt rfl (by kernel_rfl) (BindsTo.of_eq rfl) (fun L s1 S1 => ?_)
  refine wpAny_execs_cons (asgL S1 (callN (nmB (v := .builtin "len") S1 (by kernel_rfl) (by kernel_rfl) (bi1 (Attribute_any_ (nmL S1 (mR (.head _)) rfl (getItems S1 fun s2 S2 => ?_)))))))
  refine lenL S2 arL (fun t s3 S3 => ⟨_, _, L, _, S3, uR .head, rfl, fun s4 S4 => ?_⟩) (by rw [List.length_map]; lia)
  rw [List.length_map] at S4
  refine wpAny_execs_cons (asgL S4 (callN (nmG (v := .ref 327) S4 (by kernel_rfl) (df2 S4 (by kernel_rfl) (nmL S4 (mR (.head _)) rfl (nmL S4 (mR (.head _)) rfl ⟨⟨_, S4⟩, ?_⟩))))))
  refine splice_place_spec S4 ((hA.down _).le (by decide)) hi fun t s5 S5 => ⟨_, _, L, _, S5, uR .head, rfl, fun s6 S6 => ?_⟩
  rw [hp] at S6
  refine wpAny_execs_cons (asgL S6 (callN (nmG (v := .ref 334) S6 (by kernel_rfl) (df3 S6 (by kernel_rfl) (nmL S6 (mR (.head _)) rfl (nmL S6 (mR (.head _)) rfl (nmL S6 (mR (.head _)) rfl ⟨⟨_, S6⟩, ?_⟩)))))))
  refine splice_count_spec S6 ((hA.down _).le (by decide)) hv fun t s7 S7 => ⟨_, _, L, _, S7, uR .head, rfl, fun s8 S8 => ?_⟩
  rw [hc] at S8
  refine wpAny_execs_cons (wpAny_Expr (callN (nmG (v := .ref 292) S8 (by kernel_rfl) (df2 S8 (by kernel_rfl) (nmL S8 (mR (.head _)) rfl ?_)))))
  refine wpAny_BinOp (wpAny_BinOp (nmL S8 (mR (.head _)) rfl (nmL S8 (mR (.head _)) rfl (PyProof.Rows.sub_int ?_))))
  refine callN (nmB (v := .builtin "len") (S8.toks _) (by kernel_rfl) (by kernel_rfl) (bi1 (nmL (S8.toks _) (mR (.head _)) rfl ?_)))
  refine lenL (S8.toks _) (mR (.tail _ hl)) (fun t s9 S9 => ?_) (by rw [List.length_map]; lia)
  refine PyProof.Rows.add_int ⟨⟨_, S9.toks _⟩, check_room_ok (S9.toks _) ((hA.down _).le (by decide)) (by simp only [List.length_map]; lia) fun s10 S10 => ?_⟩
  refine wpAny_execs_cons (asgL S10 (slR (s₀ := s₀) (Attribute_any_ (nmL S10 (mR (.head _)) rfl (getItems S10 fun s11 S11 => evalPart_some_step (nmL S11 (mR (.head _)) rfl (evalPart_some_step (wpAny_BinOp (nmL S11 (mR (.head _)) rfl (nmL S11 (mR (.head _)) rfl (PyProof.Rows.add_int ?_)))))))))))
  have S12 := S11.toks (s11.toks + 1)
  have epc : (p : Int) + c = ((p + c : Nat) : Int) := by push_cast; rfl
  refine ⟨_, σ.ip b, (σ.it b).map itV, (tak (σ.it b) p c).map itV, some (p : Int), some ((p + c : Nat) : Int), rfl, S12, arL, by rw [List.length_map]; lia, .int _ _, by rw [epc]; exact .int _ _, ?_, fun tl s13 S13 => ?_⟩
  · have := pkRun (a := p) (b := p + c) (xs := (σ.it b).map itV) (by lia) (by rw [List.length_map]; exact hpc)
    rw [Nat.add_sub_cancel_left, ← List.map_drop, ← List.map_take] at this
    exact this
  refine ⟨_, _, L, _, S13, .tail (uR .head), rfl, fun s14 S14 => ?_⟩
  have S14 := S14.inn
  refine wpAny_execs_cons (asgSl (s₀ := s₀) (callN (nmG (v := .ref 273) S14 (by kernel_rfl) (df2 S14 (by kernel_rfl) (nmL S14 (mR (.tail _ (.head _))) rfl (nmL S14 (mR (.tail _ (.head _))) rfl ⟨⟨_, S14⟩, ?_⟩))))))
  refine fresh_scalars_spec S14 ((hA.down _).le (by decide)) (.tail _ (.tail _ hl)) ok hz3 fun cs nl s15 hn' S15 => ?_
  change Sp w s₀ (objs (σ.made ds cs) ++ _) s15 at S15
  have hcl := newOk_len hn'
  obtain ⟨eA, ep, ei⟩ := made_f (b := b) σ ds cs
  refine Attribute_any_ (nmL S15 (mR (.tail _ (.tail _ (.head _)))) rfl (getItems' (p := σ.ip b) S15 eA ep fun s16 S16 => evalPart_some_step (nmL S16 (mR (.tail _ (.tail _ (.head _)))) rfl (evalPart_some_step (wpAny_BinOp (nmL S16 (mR (.tail _ (.tail _ (.head _)))) rfl (nmL S16 (mR (.tail _ (.tail _ (.head _)))) rfl (PyProof.Rows.add_int ?_))))))))
  have S17 := S16.toks (s16.toks + 1)
  refine ⟨_, _, σ.ip b, nl, (σ.it b).map itV, (newIts σ.scs.length cs).map itV, some (p : Int), some ((p + c : Nat) : Int), p, p + c, rfl, rfl, S17, mR (by rw [newIts_val]; exact .head _), .int _ _, by rw [epc]; exact .int _ _, sbR (by lia) (by rw [List.length_map]; exact hpc), by lia, by rw [List.length_map]; lia, by rw [List.length_map, newIts_len, hcl]; lia, S17.ne2 (ipX ep) (.head _), arUz (its := spl (σ.it b) (newIts σ.scs.length cs) p c) ep ei rfl (by unfold spl; rw [List.map_append, List.map_append, List.map_take, List.map_drop]), fun s18 S18 => ?_⟩
  obtain ⟨e1, e2, e3⟩ := setIt_it (σ := σ.made ds cs) (b := b) (its := spl (σ.it b) (newIts σ.scs.length cs) p c)
  refine wpAny_execs_cons (wpAny_Return_some (callN (nmG (v := .ref 285) S18 (by kernel_rfl) (df2 S18 (by kernel_rfl) (nmL S18 (mR (.tail _ (.tail _ (.head _)))) rfl (nmL S18 (mR (.tail _ (.tail _ (.head _)))) rfl ⟨⟨_, S18⟩, ?_⟩))))))
  obtain ⟨x, y, em⟩ := made_eq σ ds cs
  have lt := tak_sub (xs := σ.it b) (p := p) (c := c)
  have ll := lt.length_le
  refine drop_members_spec S18 ((hA.down _).le (by decide)) (.tail _ (.head _)) (fun t ht => ?_) (ixs_sub lt hn) (by rw [setIt_zero, em]; show σ.zero.length + _ ≤ _; lia) (by lia) (fun l' s19 S19 => ?_) (e3.trans eA)
  · obtain ⟨q, hq, h1⟩ := ho t (lt.subset ht)
    exact ⟨q, setIt_at (made_at hq), h1⟩
  · have ev : ((tak (σ.it b) p c).map fun o => (((σ.made ds cs).setIt b (spl (σ.it b) (newIts σ.scs.length cs) p c)).vl o).val) = (tak (σ.it b) p c).map fun o => (σ.vl o).val :=
      List.map_congr_left fun o hm => by rw [setIt_vl, made_vl (live_has ho o (lt.subset hm))]
    rw [ev] at S19
    exact h cs l' _ hn' (S19.sub (.append_left (.cons_cons _ (.cons _ (.cons _ (.cons _ (.refl _))))) _))
end
end Mine
end
section
open PySem PySem.W PySem.Calls PyProof.Rows
set_option maxRecDepth 100000
namespace Mine
section
variable {w : World} {s₀ s : Shared} {W W' X R : Led} {A : Around} {E : Value → Shared → Prop} {Q : Value → Shared → Prop} {env : Env} {σ : Dm} {b : Bool}
theorem addL {l c : Addr} {xs ys : List Value} (S : Sp w s₀ W s) (hl : (l, .list xs) ∈ W) (hc : (c, .list ys) ∈ W) (hz : xs.length + ys.length ≤ 1000) (h : ∀ r s', Sp w s₀ ((r, .list (xs ++ ys)) :: W) s' → Q (.ref r) s') : wpAny (model pg w) A (binaryOp .Add (.ref l) (.ref c)) Q E s := by
  obtain ⟨vs, n, e1, e2⟩ := S.list hl
  obtain ⟨us, n2, e3, e4⟩ := S.list hc
  have l1 : vs.length = xs.length := by rw [← e2, List.length_map]
  have l2 : us.length = ys.length := by rw [← e4, List.length_map]
  have e : vs.toArray ++ us.toArray = (vs ++ us).toArray := by simp
  refine concat_meets ⟨_, e1, rfl⟩ ⟨_, e3, rfl⟩ noFill_list_add seq_list_add PySem.F.slot_list_add PySem.F.entry_list_add (PySem.F.args_list_add_2 _ _) (list_addW l c vs.toArray us.toArray n n2 none none #[] #[] (by simp only [List.size_toArray, sizeLine_eq]; lia)) ⟨e1, e3, ?_⟩
  rw [e]
  exact h _ _ (S.push (t := s.toks) (o := { cls := .type "list", data := .seq (vs ++ us).toArray }) (x := .list (xs ++ ys)) ⟨vs ++ us, 0, rfl, by rw [List.map_append, e2, e4]⟩)
theorem mulN {l : Addr} {n : Nat} {u : Tok} (S : Sp w s₀ W s) (hl : (l, .list [.none]) ∈ W) (hz : n ≤ 1000) (h : ∀ r s', Sp w s₀ ((r, .list (List.replicate n .none)) :: W) s' → Q (.ref r) s') : wpAny (model pg w) A (binaryOp .Mult (.ref l) (.int n u)) Q E s := by
  obtain ⟨vs, m, e1, e2⟩ := S.list hl
  have ev : vs = [.none] := by
    rcases vs with _ | ⟨v, _ | ⟨z, vs⟩⟩
    · simp at e2
    · rw [List.map_cons, List.map_nil] at e2
      rw [er_none (List.cons.inj e2).1]
    · simp at e2
  subst ev
  have hsz : [Value.none].toArray.size = 1 := rfl
  have hls : [Value.none].toArray.toList = [Value.none] := rfl
  generalize [Value.none].toArray = arr at e1 hsz hls
  have h0 : (n : Int).toNat = n := by simp
  have h1 : (0 : Int) ≤ n := by lia
  have h2 : (n : Int) ≤ 1000 := by lia
  generalize (n : Int) = y at h0 h1 h2 ⊢
  have c0 : ¬(!Builtin.List.listFitsIndex y) = true := by simp [Builtin.List.listFitsIndex]; lia
  have c1 : ¬arr.size * y.toNat > (2 ^ 63 - 1) / 8 := by rw [hsz, h0]; lia
  have c2 : ¬Builtin.List.listTooLong (arr.size * y.toNat) = true := by rw [listTooLong_small (by rw [hsz, h0]; lia)]; exact Bool.false_ne_true
  have g := lm_list_mul_any l arr m none #[] y u c0 c1 c2
  have g2 := lm_int_rmul_list_any y u l arr m none #[]
  refine wpAny_binaryOp_repeat_ref (T := "list") (U := "int") (by decide) ⟨_, e1, rfl⟩ (fun s' => typeIs_int s' y u) noFill_list_mul F.fills_int_mul F.slot_int_rmul repeat_list F.slot_int_index.lookup
    (call_meets F.slot_int_rmul (typeIs_int s y u) F.entry_int_rmul (F.args_int_rmul_2 _ _) g2
      ⟨e1, rfl, ⟨_, e1, rfl⟩, call_meets F.slot_list_mul ⟨_, e1, rfl⟩ F.entry_list_mul (F.args_list_mul_2 _ _) g ⟨e1, ?_⟩⟩)
  rw [listMul_foldl_if, hls, h0]
  have hr : (List.replicate n [Value.none]).flatten = List.replicate n Value.none := by simp
  rw [hr]
  exact h _ _ (S.push (t := s.toks) (o := { cls := .type "list", data := .seq (List.replicate n Value.none).toArray }) (x := .list (List.replicate n .none)) ⟨List.replicate n .none, 0, rfl, by rw [List.map_replicate]; rfl⟩)
end
end Mine
end
section
open PySem PySem.W PySem.Calls PyProof.Rows
set_option maxRecDepth 100000
namespace Mine
section
variable {w : World} {s₀ s : Shared} {W W' X R : Led} {A : Around} {E : Value → Shared → Prop} {Q : Value → Shared → Prop} {env : Env} {σ : Dm} {b : Bool}
noncomputable def Dm.resz (σ : Dm) (b : Bool) (n : Nat) : Dm := if n < (σ.it b).length then (σ.setIt b ((σ.it b).take n)).drops ((σ.it b).drop n) else σ.setIt b (σ.it b ++ List.replicate (n - (σ.it b).length) none)
theorem resize_ok {A₀ : Ad} {n : Nat} {i m : Int} {t u : Tok} (S : Sp w s₀ (objs σ ++ R) s) (hA : Rm A 8) (hi : max i 0 = n) (hm : (n : Int) ≤ m) (hz0 : n ≤ 900) (ho : σ.live (σ.it b)) (hn : (ixs (σ.it b)).Nodup) (hz : σ.zero.length + (σ.it b).length ≤ 1000) (hz2 : (σ.it b).length ≤ 900)
    (h : ∀ s', Sp w s₀ (objs (σ.resz b n) ++ R) s' → Q .none s') (eA₀ : σ.A = A₀ := by rfl) : wpAny (model pg w) A (call (.ref 376) [.ref A₀.ctr, .ref (A₀.ar b), .int i t, .int m u]) Q E s := by
  subst eA₀
  refine callS [(k "most", .int m u), (k "size", .int i t), (k "array", .ref (σ.A.ar b)), (k "counter", .ref σ.A.ctr)] S hA.lt rfl (by kernel_rfl) (BindsTo.of_eq rfl) (fun L s1 S1 => ?_)
  refine wpAny_execs_cons (asgL S1 (callN (nmB (v := .builtin "max") S1 (by kernel_rfl) (by kernel_rfl) (bi2 (nmL S1 (mR (.head _)) rfl (wpAny_Constant_int ?_))))))
  refine maxI (S1.toks _) (mR (.head _)) hA.2.2 fun t2 s2 S2 => ⟨_, _, L, _, S2, uR .head, rfl, fun s3 S3 => ?_⟩
  rw [hi] at S3
  refine wpAny_execs_cons (wpAny_If (wpAny_isTrue_Compare1 (nmL S3 (mR (.head _)) rfl (nmL S3 (mR (.head _)) rfl (PyProof.Rows.gt_int (wpAny_truthy_bool ?_))))))
  rw [decide_eq_false (by lia)]
  refine wpAny_execs_nil (wpAny_execs_cons (wpAny_If (wpAny_isTrue_Compare1 (nmL S3 (mR (.head _)) rfl ?_))))
  refine callN (nmB (v := .builtin "len") S3 (by kernel_rfl) (by kernel_rfl) (bi1 (Attribute_any_ (nmL S3 (mR (.head _)) rfl (getItems S3 fun s4 S4 => ?_)))))
  refine lenL S4 arL (fun t5 s5 S5 => PyProof.Rows.lt_int (wpAny_truthy_bool ?_)) (by rw [List.length_map]; lia)
  rw [List.length_map]
  unfold Dm.resz at h
  by_cases q : n < (σ.it b).length
  · rw [if_pos q] at h
    simp only [decide_eq_true (show (n : Int) < ((σ.it b).length : Int) by lia), if_true]
    refine wpAny_execs_cons (asgL S5 (slR (s₀ := s₀) (Attribute_any_ (nmL S5 (mR (.head _)) rfl (getItems S5 fun s6 S6 => evalPart_some_step (nmL S6 (mR (.head _)) rfl (evalPart_none_step ?_)))))))
    refine ⟨_, σ.ip b, (σ.it b).map itV, ((σ.it b).drop n).map itV, some (n : Int), none, rfl, S6, arL, by rw [List.length_map]; lia, .int _ _, .none, by rw [List.map_drop]; exact pkFrom, fun gl s7 S7 => ⟨_, _, L, _, S7, .tail (uR .head), rfl, fun s8 S8 => ?_⟩⟩
    have S8 := S8.inn
    refine wpAny_execs_cons (asgSl (s₀ := s₀) (List_ (wpAny_items_nil (newL S8 fun nl s9 S9 => ?_))))
    have S9 := S9.inn
    refine Attribute_any_ (nmL S9 (mR (.tail _ (.tail _ (.head _)))) rfl (getItems S9 fun s10 S10 => evalPart_some_step (nmL S10 (mR (.tail _ (.tail _ (.head _)))) rfl (evalPart_none_step ?_))))
    refine ⟨_, _, σ.ip b, nl, (σ.it b).map itV, [], some (n : Int), none, n, (σ.it b).length, rfl, rfl, S10, mR (.head _), .int _ _, .none, by rw [List.length_map]; exact sbF (by lia), by lia, by rw [List.length_map]; lia, Nat.zero_le _, S10.ne2 (ipX rfl) (.head _), arUz (its := (σ.it b).take n) rfl rfl rfl ?_, fun s11 S11 => ?_⟩
    · rw [← List.map_drop, List.drop_length, ← List.map_take]; simp
    · obtain ⟨e1, e2, e3⟩ := setIt_it (σ := σ) (b := b) (its := (σ.it b).take n)
      have ls := List.drop_sublist n (σ.it b)
      refine wpAny_execs_cons (wpAny_Expr_any (callN (nmG (v := .ref 285) S11 (by kernel_rfl) (df2 S11 (by kernel_rfl) (nmL S11 (mR (.tail _ (.tail _ (.head _)))) rfl (nmL S11 (mR (.tail _ (.tail _ (.head _)))) rfl ⟨⟨_, S11⟩, ?_⟩))))))
      refine drop_members_spec S11 ((hA.down _).le (by decide)) (.tail _ (.head _)) (fun t ht => ?_) (ixs_sub ls hn) (by rw [setIt_zero, List.length_drop]; lia) (by rw [List.length_drop]; lia) (fun l' s12 S12 => ?_) e3
      · obtain ⟨c, hc, h1⟩ := ho t (ls.subset ht)
        exact ⟨c, setIt_at hc, h1⟩
      · refine wpAny_execs_nil ?_
        refine wpAny_execs_nil ?_
        exact h _ (S12.sub (.append_left (.cons _ (.cons _ (.cons _ (.cons _ (.refl _))))) _))
  · rw [if_neg q] at h
    rw [decide_eq_false (show ¬ (n : Int) < ((σ.it b).length : Int) by lia), if_neg Bool.false_ne_true]
    refine wpAny_execs_cons (wpAny_Expr (callM (Attribute_any_ (nmL S5 (mR (.head _)) rfl (getItems S5 fun s6 S6 => mtExtend S6 arL (extendM S6 ?_))))))
    refine wpAny_BinOp (List_ (wpAny_items_cons (wpAny_Constant_none (wpAny_items_nil (newL S6 fun nl s7 S7 => ?_)))))
    have S7 := S7.inn
    refine wpAny_BinOp (nmL S7 (mR (.tail _ (.head _))) rfl ?_)
    refine callN (nmB (v := .builtin "len") S7 (by kernel_rfl) (by kernel_rfl) (bi1 (Attribute_any_ (nmL S7 (mR (.tail _ (.head _))) rfl (getItems S7 fun s8 S8 => ?_)))))
    refine lenL S8 arL (fun t9 s9 S9 => PyProof.Rows.sub_int ?_) (by rw [List.length_map]; lia)
    rw [List.length_map]
    have en : (n : Int) - ((σ.it b).length : Int) = ((n - (σ.it b).length : Nat) : Int) := by lia
    rw [en]
    refine mulN (S9.toks _) (mR (.head _)) (by lia) fun r s10 S10 => ?_
    have S10 := S10.inn
    refine ⟨_, _, (σ.it b).map itV, r, (List.replicate (n - (σ.it b).length) none).map itV, rfl, S10, mR (by rw [List.map_replicate]; exact .head _), arUA rfl rfl, by rw [List.length_map]; lia, by rw [List.length_map, List.length_replicate]; lia, fun s11 S11 => ?_⟩
    refine wpAny_execs_nil ?_
    refine wpAny_execs_nil ?_
    exact h _ (S11.sub (.append_left (.cons _ (.cons _ (.cons _ (.refl _)))) _))
end
end Mine
end
section
open PySem PySem.W PySem.Calls PyProof.Rows
set_option maxRecDepth 100000
namespace Mine
section
variable {w : World} {s₀ s : Shared} {W W' X R : Led} {A : Around} {E : Value → Shared → Prop} {Q : Value → Shared → Prop} {env : Env} {σ : Dm} {b : Bool}
theorem place_neg {i : Int} {t : Tok} (S : Sp w s₀ (objs σ ++ R) s) (hA : Rm A 1) (hi : i < 0) (h0 : 0 ≤ i + (σ.it b).length) (hz2 : (σ.it b).length ≤ 900) (h : ∀ t s', Sp w s₀ (objs σ ++ R) s' → Q (.int (i + (σ.it b).length) t) s') : wpAny (model pg w) A (call (.ref 348) [.ref (σ.A.ar b), .int i t]) Q E s := by
  refine callS [(k "index", .int i t), (k "array", .ref (σ.A.ar b))] S hA.lt rfl (by kernel_rfl) (BindsTo.of_eq rfl) (fun L s1 S1 => ?_)
  refine wpAny_execs_cons (wpAny_If (wpAny_isTrue_Compare1 (nmL S1 (mR (.head _)) rfl (wpAny_Constant_int (PyProof.Rows.lt_int (wpAny_truthy_bool ?_))))))
  have S2 := S1.toks (s1.toks + 1)
  simp only [decide_eq_true hi, if_true]
  refine wpAny_execs_cons (wpAny_AugAssign_Name (ldL S2 (mR (.head _)) rfl ?_))
  refine callN (nmB (v := .builtin "len") S2 (by kernel_rfl) (by kernel_rfl) (bi1 (Attribute_any_ (nmL S2 (mR (.head _)) rfl (getItems S2 fun s3 S3 => ?_)))))
  refine lenL S3 arL (fun t4 s4 S4 => PyProof.Rows.iadd_int ?_) (by rw [List.length_map]; lia)
  rw [List.length_map]
  refine stL (S4.toks _) (Upd.right .head) fun s5 S5 => ?_
  refine wpAny_execs_cons (wpAny_If (wpAny_isTrue_Compare1 (nmL S5 (mR (.head _)) rfl (wpAny_Constant_int (PyProof.Rows.lt_int (wpAny_truthy_bool ?_))))))
  rw [decide_eq_false (by lia)]
  refine wpAny_execs_nil (wpAny_execs_nil (wpAny_execs_cons (wpAny_Return_some (nmL (S5.toks _) (mR (.head _)) rfl ?_))))
  exact h _ _ (S5.toks _).out1
theorem place_pos {i : Int} {t : Tok} {a : Value} (S : Sp w s₀ (X ++ R) s) (hA : Rm A 1) (hi : 0 ≤ i) (h : ∀ s', Sp w s₀ (X ++ R) s' → Q (.int i t) s') : wpAny (model pg w) A (call (.ref 348) [a, .int i t]) Q E s := by
  refine callS [(k "index", .int i t), (k "array", a)] S hA.lt rfl (by kernel_rfl) (BindsTo.of_eq rfl) (fun L s1 S1 => ?_)
  refine wpAny_execs_cons (wpAny_If (wpAny_isTrue_Compare1 (nmL S1 (mX (.head _)) rfl (wpAny_Constant_int (PyProof.Rows.lt_int (wpAny_truthy_bool ?_))))))
  rw [decide_eq_false (by lia)]
  refine wpAny_execs_nil (wpAny_execs_cons (wpAny_Return_some (nmL (S1.toks _) (mX (.head _)) rfl ?_)))
  exact h _ (S1.toks _).out1
theorem has_ok {j : Nat} {t : Tok} {o : Option It} (S : Sp w s₀ (objs σ ++ R) s) (hA : Rm A 2) (hj : (σ.it b)[j]? = some o) (hz2 : (σ.it b).length ≤ 900) (h : ∀ s', Sp w s₀ (objs σ ++ R) s' → Q (.bool o.isSome) s') : wpAny (model pg w) A (call (.ref 355) [.ref (σ.A.ar b), .int j t]) Q E s := by
  have hlt := (List.getElem?_eq_some_iff.mp hj).1
  refine callS [(k "index", .int j t), (k "array", .ref (σ.A.ar b))] S hA.lt rfl (by kernel_rfl) (BindsTo.of_eq rfl) (fun L s1 S1 => ?_)
  refine wpAny_execs_cons (asgL S1 (callN (nmG (v := .ref 348) S1 (by kernel_rfl) (df2 S1 (by kernel_rfl) (nmL S1 (mR (.head _)) rfl (nmL S1 (mR (.head _)) rfl ⟨⟨_, S1⟩, ?_⟩))))))
  refine place_pos S1 ((hA.down _).le (by decide)) (by lia) fun s2 S2 => ⟨_, _, L, _, S2, uR .head, rfl, fun s3 S3 => ?_⟩
  refine wpAny_execs_cons (wpAny_Return_some (BoolOp_and (Compare_chain (wpAny_Constant_int (chain_link (nmL (S3.toks _) (mR (.head _)) rfl (PyProof.Rows.le_int (wpAny_truthy_bool ?_))))))))
  rw [decide_eq_true (by lia), if_pos rfl]
  have S4 := S3.toks (s3.toks + 1)
  refine chain_last (callN (nmB (v := .builtin "len") S4 (by kernel_rfl) (by kernel_rfl) (bi1 (Attribute_any_ (nmL S4 (mR (.head _)) rfl (getItems S4 fun s5 S5 => ?_))))))
  refine lenL S5 arL (fun t6 s6 S6 => PyProof.Rows.lt_int (wpAny_truthy_bool ?_)) (by rw [List.length_map]; lia)
  rw [List.length_map, decide_eq_true (by lia), if_pos rfl]
  refine BoolOp_one (wpAny_Compare1 (Subscript_ (Attribute_any_ (nmL S6 (mR (.head _)) rfl (getItems S6 fun s7 S7 => nmL S7 (mR (.head _)) rfl ?_)))))
  refine kba_turn (value' := .Name (Str.ofString "_") ⟨0, 0, 0, 0⟩) (fun _ => rfl) (itL S7 arL (by lia) (x := itV o) ?_ (by rw [List.length_map]; lia) fun v s8 hv S8 => ?_)
  · rw [List.getElem?_map, Int.toNat_natCast, hj]; rfl
  · refine wpAny_Constant_none (isnot_none_gen ?_)
    have : (!(v == Value.none)) = o.isSome := by
      cases o with
      | none => obtain rfl := er_none hv; rfl
      | some t => obtain rfl := er_ref hv; rfl
    rw [this]
    exact h _ S8.out1
theorem element_ok {j : Nat} {t : Tok} {o : Option It} (S : Sp w s₀ (objs σ ++ R) s) (hA : Rm A 4) (hj : (σ.it b)[j]? = some o) (ho : σ.has o) (hz2 : (σ.it b).length ≤ 900) (h : ∀ u s', er u = (σ.vl o).val → Sp w s₀ (objs σ ++ R) s' → Q u s') : wpAny (model pg w) A (call (.ref 362) [.ref (σ.A.ar b), .int j t]) Q E s := by
  have hlt := (List.getElem?_eq_some_iff.mp hj).1
  refine callS [(k "index", .int j t), (k "array", .ref (σ.A.ar b))] S hA.lt rfl (by kernel_rfl) (BindsTo.of_eq rfl) (fun L s1 S1 => ?_)
  refine wpAny_execs_cons (wpAny_If (wpAny_isTrue_Not (wpAny_isTrue_value (callN (nmG (v := .ref 355) S1 (by kernel_rfl) (df2 S1 (by kernel_rfl) (nmL S1 (mR (.head _)) rfl (nmL S1 (mR (.head _)) rfl ⟨⟨_, S1⟩, ?_⟩))))))))
  refine has_ok S1 ((hA.down _).le (by decide)) hj hz2 fun s2 S2 => wpAny_truthy_bool ?_
  cases o with
  | none => exact wpAny_execs_cons (wpAny_Return_some (wpAny_Constant_none (h _ _ rfl S2.out1)))
  | some t =>
    refine wpAny_execs_nil (wpAny_execs_cons (wpAny_Return_some (callN (nmG (v := .ref 229) S2 (by kernel_rfl) (df1 S2 (by kernel_rfl) (Subscript_ (Attribute_any_ (nmL S2 (mR (.head _)) rfl (getItems S2 fun s3 S3 => ?_)))))))))
    refine callN (nmG (v := .ref 348) S3 (by kernel_rfl) (df2 S3 (by kernel_rfl) (nmL S3 (mR (.head _)) rfl (nmL S3 (mR (.head _)) rfl ⟨⟨_, S3⟩, ?_⟩))))
    refine place_pos S3 ((hA.down _).le (by decide)) (by lia) fun s4 S4 => ?_
    refine kba_turn (value' := .Name (Str.ofString "_") ⟨0, 0, 0, 0⟩) (fun _ => rfl) (itL S4 arL (by lia) (x := itV (some t)) ?_ (by rw [List.length_map]; lia) fun v s8 hv S8 => ⟨⟨_, S8⟩, ?_⟩)
    · rw [List.getElem?_map, Int.toNat_natCast, hj]; rfl
    · exact value_of_spec S8 ((hA.down _).le (by decide)) hv ho fun u s9 hu S9 => h u _ hu S9.out1
theorem slices_ok {iv : Value} {src : Led → Prop} {itO : Nat → SO} {js : List Nat} (S : Sp w s₀ (objs σ ++ R) s) (hA : Rm A 6) (IT : Itr w s₀ src itO (js.map fun (j : Nat) => vi j)) (hsrc : src R) (hjs : ∀ j ∈ js, j < (σ.it b).length) (hz : js.length ≤ 900) (ho : ∀ o ∈ σ.it b, σ.has o) (hz2 : (σ.it b).length ≤ 900)
    (hiter : ∀ {A : Around} {E : Value → Shared → Prop} {Q : Value → Shared → Prop} {R' : Led} {s : Shared}, Sp w s₀ (objs σ ++ R') s → (∀ p ∈ R, p ∈ R') → (∀ I s', Sp w s₀ ((I, itO 0) :: (objs σ ++ R')) s' → Q (.ref I) s') → wpAny (model pg w) A (pyIter iv) Q E s)
    (h : ∀ l s', Sp w s₀ (objs σ ++ ((l, .list (js.map fun j => (σ.vl ((σ.it b)[j]?.getD none)).val)) :: R)) s' → Q (.ref l) s') : wpAny (model pg w) A (call (.ref 400) [.ref (σ.A.ar b), iv]) Q E s := by
  refine callC1 [(k "indexes", iv)] (k "array") (some (.ref (σ.A.ar b))) S hA.lt rfl (by kernel_rfl) rfl rfl rfl (fun L s1 S1 => ?_)
  refine wpAny_execs_cons (wpAny_Return_some ?_)
  refine compI (s₀ := s₀) (fun i acc X R' => X = objs σ ∧ R' = (L, .ns [(k "indexes", iv)]) :: (L + 1, .cell (some (.ref (σ.A.ar b)))) :: R ∧ acc = (js.take i).map fun j => (σ.vl ((σ.it b)[j]?.getD none)).val)
    rfl (by decide) rfl (by decide) rfl hA.2.2 ?_
  refine nmL S1 (mR (.head _)) rfl (hiter S1 (fun p hp => .tail _ (.tail _ hp)) fun I s2 S2 => ⟨I, src, itO, _, _, _, rfl, IT, S2, ⟨rfl, rfl, rfl⟩, by rw [List.length_map]; exact hz, ?_, ?_, ?_⟩)
  · rintro i acc X R' ⟨rfl, rfl, rfl⟩
    refine ⟨IT.mono hsrc fun p hp => mR (.tail _ (.tail _ hp)), ?_⟩
    rw [List.length_map, List.length_take]; lia
  · rintro C D I i acc X R' v m s E ⟨rfl, rfl, rfl⟩ hv hm S3
    refine wpAny_pure ?_
    rw [if_pos rfl]
    rw [List.getElem?_map] at hv
    obtain ⟨j, hx, hxv⟩ := Option.map_eq_some_iff.mp hv
    obtain ⟨t, rfl⟩ := er_int hxv.symm
    have hj := hjs j (List.mem_of_getElem? hx)
    refine callN (nmG (v := .ref 362) S3 (by kernel_rfl) (df2 S3 (by kernel_rfl) (nmC (c := L + 1) (v := .ref (σ.A.ar b)) S3 (mR (.tail _ (.tail _ (.tail _ (.tail _ (.head _)))))) (nmL S3 (mR (.head _)) hm ⟨⟨_, S3⟩, ?_⟩))))
    refine element_ok (o := (σ.it b)[j]) S3 ((hA.down _).le (by decide)) (List.getElem?_eq_getElem hj) (ho _ (List.getElem_mem hj)) hz2 fun u s4 hu S4 => ⟨_, _, ⟨rfl, rfl, ?_⟩, S4⟩
    rw [List.take_add_one, hx, List.map_append, hu]
    simp [List.getElem?_eq_getElem hj]
  · rintro acc X R' D s ⟨rfl, rfl, rfl⟩ S3
    rw [List.length_map, List.take_length] at S3
    exact h D s (S3.sub (.append_left (.cons_cons _ (.cons _ (.cons _ (.refl _)))) _))
end
end Mine
end
section
open PySem PySem.W PySem.Calls PyProof.Rows
set_option maxRecDepth 100000
namespace Mine
section
variable {w : World} {s₀ s : Shared} {W W' X R : Led} {A : Around} {E : Value → Shared → Prop} {Q : Value → Shared → Prop} {env : Env} {σ : Dm} {b : Bool}
theorem slRev {value st : Expr} {p pos : Pos} {x : Str} {px : Pos} (hv : value = .Name x px)
    (h : wpAny (model pg w) A (eval value env) (fun o s₁ => wpAny (model pg w) A (eval st env) (fun vs s₂ => ∃ W l xs t, o = .ref l ∧ vs = .int (-1) t ∧ Sp w s₀ W s₂ ∧ (l, .list xs) ∈ W ∧ xs.length ≤ 1000 ∧ ∀ l' s', Sp w s₀ ((l', .list xs.reverse) :: W) s' → Q (.ref l') s') E s₁) E s) :
    wpAny (model pg w) A (eval (.Subscript value (.Slice none none (some st) p) pos) env) Q E s := by
  refine wpAny_Subscript_Slice_step (T := "list") list_getitem_lookup (wpAny_mono h (fun o s₁ h₁ => wpAny_Slice ?_) fun _ _ e => e) (by intro o r; subst hv; rfl)
  rw [evalPart_none]
  refine wpAny_pure (wpAny_pure (evalPart_some_step (wpAny_mono h₁ (fun vs s₂ z => ?_) fun _ _ e => e)))
  obtain ⟨W, l, xs, t, rfl, rfl, S, hl, hz, z⟩ := z
  have S1 := S.push (t := s₂.toks) (o := { cls := .type "slice", data := .fields #[.none, .none, .int (-1) t] }) (x := .raw fun _ => True) trivial
  obtain ⟨vs, h1, h2⟩ := S1.isList (.tail _ hl)
  refine ⟨h1.typeIs, wpAny_getItem_list_slice h1 (Heap.IsSliceOf.new ..) .none .none (.int _ _) (by decide) ?_ (by rw [List.size_toArray, ← List.length_map er, h2]; exact fit hz)⟩
  rw [krv_pick]
  have S2 := S1.push (t := s₂.toks) (o := { cls := .type "list", data := .seq vs.toArray.toList.reverse.toArray }) (x := .list xs.reverse) ⟨vs.reverse, 0, rfl, by rw [List.map_reverse, h2]⟩
  exact z _ _ (S2.sub (.cons_cons _ (.cons _ (.refl _))))
theorem reversed_ok {l : Addr} {xs : List Value} (S : Sp w s₀ (X ++ R) s) (hA : Rm A 1) (hl : (l, .list xs) ∈ R) (hz : xs.length ≤ 1000) (h : ∀ l' s', Sp w s₀ (X ++ ((l', .list xs.reverse) :: R)) s' → Q (.ref l') s') : wpAny (model pg w) A (call (.ref 407) [.ref l]) Q E s := by
  refine callS [(k "members", .ref l)] S hA.lt rfl (by kernel_rfl) (BindsTo.of_eq rfl) (fun L s1 S1 => ?_)
  refine wpAny_execs_cons (wpAny_Return_some (slRev (s₀ := s₀) rfl (nmL S1 (mX (.head _)) rfl (UnaryOp_ (wpAny_Constant_int (PySem.P.neg_int ?_))))))
  refine ⟨_, l, xs, _, rfl, rfl, (S1.toks _).toks _, mX (.tail _ hl), hz, fun l' s2 S2 => ?_⟩
  exact h l' _ (S2.inn.sub (.append_left (.cons_cons _ (.cons _ (.refl _))) _))
theorem itNeg {l : Addr} {xs : List Value} {t : Tok} {x : Value} {value slice : Expr} (S : Sp w s₀ W s) (hl : (l, .list (xs ++ [x])) ∈ W) (hz : xs.length ≤ 900) (h : ∀ v s', er v = x → Sp w s₀ W s' → Q v s')
    (hs : subscripted slice false (.ref l) (.int (-1) t) = operate [.ref l, .int (-1) t] (getItem (.ref l) (.int (-1) t)) := by with_unfolding_all rfl) (hg : ∀ r, letTemporaryGo value (.ref l) r = pure () := by intro _; with_unfolding_all rfl) :
    wpAny (model pg w) A (subscriptTail value slice (.ref l) (.int (-1) t)) Q E s := by
  obtain ⟨vs, h1, h2⟩ := S.isList hl
  have hlen : vs.length = xs.length + 1 := by rw [← List.length_map er, h2]; simp
  obtain ⟨v, h3, h4⟩ := er_at (vs := vs) (j := xs.length) (x := x) (by rw [h2]; simp)
  refine subscriptTail_builtin h1.typeIs slot_list_getitem.lookup (wpAny_getItem_list_neg h1 (by decide) (by rw [List.size_toArray, hlen]; lia) (by decide) ?_ (h _ _ h4 S)) hs hg
  rw [List.size_toArray, hlen]
  have : (-1 + ((xs.length + 1 : Nat) : Int)).toNat = xs.length := by lia
  rw [this]
  simpa using h3
theorem value_of_told {x : Tv} {v : Value} (S : Sp w s₀ (X ++ R) s) (hA : Rm A 2) (hv : er v = x.val) (hx : ∀ p ∈ x.objs, p ∈ R) (h : ∀ s', Sp w s₀ (X ++ R) s' → Q v s') : wpAny (model pg w) A (call (.ref 229) [v]) Q E s := by
  refine callS [(k "x", v)] S hA.lt rfl (by kernel_rfl) (BindsTo.of_eq rfl) (fun L s1 S1 => ?_)
  refine wpAny_execs_cons (wpAny_If (wpAny_isTrue_Not (wpAny_isTrue_value (callN (nmB (v := .builtin "isinstance") S1 (by kernel_rfl) (by kernel_rfl) (bi2 ?_))))))
  refine nmL S1 (mX (.head _)) rfl (nmG (v := .ref 59) S1 (by kernel_rfl) ?_)
  obtain ⟨t, a⟩ := x
  cases t with
  | none =>
    obtain rfl := er_none hv
    exact isNoneF S1 (by kernel_rfl) fun s2 S2 => wpAny_truthy_bool (wpAny_execs_cons (wpAny_Return_some (nmL S2 (mX (.head _)) rfl (h _ S2.out1))))
  | int i =>
    obtain ⟨t, rfl⟩ := er_int hv
    exact isIntF S1 (by kernel_rfl) fun s2 S2 => wpAny_truthy_bool (wpAny_execs_cons (wpAny_Return_some (nmL S2 (mX (.head _)) rfl (h _ S2.out1))))
  | str y =>
    obtain ⟨t, rfl⟩ := er_str hv
    exact isStrF S1 (by kernel_rfl) fun s2 S2 => wpAny_truthy_bool (wpAny_execs_cons (wpAny_Return_some (nmL S2 (mX (.head _)) rfl (h _ S2.out1))))
  | ref n =>
    obtain rfl := er_ref hv
    exact isTupF S1 (mX (.tail _ (hx _ (.head _)))) (by kernel_rfl) fun s2 S2 => wpAny_truthy_bool (wpAny_execs_cons (wpAny_Return_some (nmL S2 (mX (.head _)) rfl (h _ S2.out1))))
noncomputable def lastT : List Tv → Tv
  | ts => ts.getLast?.getD ⟨.none, 0⟩
theorem last_ok {l : Addr} {ts : List Tv} (S : Sp w s₀ (X ++ R) s) (hA : Rm A 4) (hl : (l, .list (ts.map Tv.val)) ∈ R) (hx : ∀ p ∈ ts.flatMap Tv.objs, p ∈ R) (hz : ts.length ≤ 900) (h : ∀ u s', er u = (lastT ts).val → Sp w s₀ (X ++ R) s' → Q u s') : wpAny (model pg w) A (call (.ref 414) [.ref l]) Q E s := by
  refine callS [(k "members", .ref l)] S hA.lt rfl (by kernel_rfl) (BindsTo.of_eq rfl) (fun L s1 S1 => ?_)
  refine wpAny_execs_cons (wpAny_If (wpAny_isTrue_Compare1 (nmL S1 (mX (.head _)) rfl (List_ (wpAny_items_nil (newL S1 fun n s3 S3 => ?_))))))
  refine eqNil S3 (hA.down _).cl (.tail _ (mX (.tail _ hl))) (.head _) (wpAny_truthy_bool ?_)
  rcases List.eq_nil_or_concat ts with rfl | ⟨us, t, rfl⟩
  · exact wpAny_execs_cons (wpAny_Return_some (wpAny_Constant_none (h _ _ rfl (S3.sub (.cons _ ((List.sublist_cons_self _ R).append_left _))))))
  · rw [List.concat_eq_append] at *
    have hne : (List.map Tv.val (us ++ [t])).isEmpty = false := by simp
    rw [hne]
    have S4 := S3.sub (List.sublist_cons_self _ _)
    refine wpAny_execs_nil (wpAny_execs_cons (wpAny_Return_some (callN (nmG (v := .ref 229) S4 (by kernel_rfl) (df1 S4 (by kernel_rfl) (Subscript_ (nmL S4 (mX (.head _)) rfl (UnaryOp_ (wpAny_Constant_int (PySem.P.neg_int ?_))))))))))
    have S5 := (S4.toks (s3.toks + 1)).toks (s3.toks + 1 + 1)
    refine itNeg (xs := us.map Tv.val) (x := t.val) S5 (by rw [List.map_append] at hl; exact mX (.tail _ hl)) (by rw [List.length_map]; rw [List.length_append] at hz; lia) fun v s6 hv S6 => ⟨⟨_, S6⟩, ?_⟩
    have hl' : lastT (us ++ [t]) = t := by unfold lastT; simp
    exact value_of_told S6 ((hA.down _).le (by decide)) hv (fun p hp => .tail _ (hx p (List.mem_flatMap.mpr ⟨t, by simp, hp⟩))) fun s7 S7 => h _ _ (by rw [hl']; exact hv) S7.out1
end
end Mine
end
section
open PySem PySem.W PySem.Calls PyProof.Rows
set_option maxRecDepth 100000
namespace Mine
noncomputable def Sc.setv (x : DV) (c : Sc) : Sc := { c with val := x }
noncomputable def Dm.setv (σ : Dm) (t : It) (x : DV) : Dm := { σ with scs := σ.scs.modify t.i (Sc.setv x) }
noncomputable def Dm.untake (σ : Dm) : DV → Dm
  | .rf f => σ.addc f.j (-1)
  | _ => σ
noncomputable def Dm.loose (σ : Dm) : DV → Prop
  | .rf f => 1 < σ.cj f.j
  | _ => True
section
variable {w : World} {s₀ s : Shared} {W W' X R : Led} {A : Around} {E : Value → Shared → Prop} {Q : Value → Shared → Prop} {env : Env} {σ : Dm} {b : Bool}
theorem setv_eq {t : It} {c : Sc} {x : DV} (h : σ.At t c) : σ.setv t x = { σ with scs := σ.scs.set t.i (c.setv x) } := by unfold Dm.setv; rw [modify_some h.1]
theorem setv_at {t : It} {c : Sc} {x : DV} (h : σ.At t c) : (σ.setv t x).At t (c.setv x) := by
  rw [setv_eq h]
  exact ⟨by show (σ.scs.set t.i (c.setv x))[t.i]? = _; rw [List.getElem?_set_self (List.getElem?_eq_some_iff.mp h.1).1], h.2⟩
theorem put_off_ok {A₀ : Ad} {x : DV} {v sv : Value} (S : Sp w s₀ (objs σ ++ R) s) (hA : Rm A 3) (hv : er v = x.val) (ok : x.ok σ) (hl : σ.loose x) (hz : σ.zero.length ≤ 1000) (h : ∀ s', Sp w s₀ (objs (σ.untake x) ++ R) s' → Q .none s') (eA₀ : σ.A = A₀ := by rfl) :
    wpAny (model pg w) A (call (.ref 506) [.ref A₀.ctr, sv, v]) Q E s := by
  subst eA₀
  refine callC1 [(k "value", v), (k "self", .ref σ.A.ctr)] (k "scalar") (some sv) S hA.lt rfl (by kernel_rfl) rfl rfl rfl (fun L s1 S1 => ?_)
  refine wpAny_execs_cons (wpAny_If (wpAny_isTrue_Not (wpAny_isTrue_value (callN (nmB (v := .builtin "isinstance") S1 (by kernel_rfl) (by kernel_rfl) (bi2 ?_))))))
  refine nmL S1 (mR (.head _)) rfl (nmG (v := .ref 155) S1 (by kernel_rfl) (isRef S1 hv ok fun s2 S2 => wpAny_truthy_bool ?_))
  cases x with
  | rf f =>
    obtain rfl := er_ref hv
    refine wpAny_execs_nil (wpAny_execs_cons (wpAny_If (wpAny_isTrue_value (Attribute_any_ (nmL S2 (mR (.head _)) rfl (getA S2 (rfI ok) (rfD ok) rfl (by kernel_rfl) fun v3 s3 ev S3 => ?_))))))
    obtain rfl := er_bool ev
    refine wpAny_truthy_bool ?_
    refine wpAny_execs_cons (wpAny_Expr (callM (nmL S3 (mR (.head _)) rfl (mtI (f := 487) S3 (mF (i := 3) rfl) (mF (i := 4) rfl) rfl (by kernel_rfl) (df1 S3 (by kernel_rfl) (Attribute_any_ (nmL S3 (mR (.head _)) rfl (getAr S3 (rfI ok) (rfD ok) rfl (by kernel_rfl) fun s4 S4 => ?_))))))))
    refine ⟨⟨_, S4⟩, let_go_t S4 ((hA.down _).le (by decide)) hz hl fun s5 S5 => ?_⟩
    exact wpAny_execs_nil (wpAny_execs_nil (h _ (S5.sub (.append_left (.cons _ (.cons _ (.refl _))) _))))
  | none => exact wpAny_execs_cons (wpAny_Return_none (h _ (S2.sub (.append_left (.cons _ (.cons _ (.refl _))) _))))
  | int n => exact wpAny_execs_cons (wpAny_Return_none (h _ (S2.sub (.append_left (.cons _ (.cons _ (.refl _))) _))))
  | str n => exact wpAny_execs_cons (wpAny_Return_none (h _ (S2.sub (.append_left (.cons _ (.cons _ (.refl _))) _))))
theorem bm2 {id : String} {first : List Value} {pos : Pos} {a b : Expr} (h : wpAny (model pg w) A (eval a env) (fun v s₁ => wpAny (model pg w) A (eval b env) (fun u s₂ => wpAny (model pg w) A (call (.builtin id) (first ++ [v, u])) Q E s₂) E s₁) E s)
    (he : starEach [a, b] env = (false, eval a env) :: starEach [b] env := by rfl) (he2 : starEach [b] env = (false, eval b env) :: starEach [] env := by rfl) (hp : (backTo pos (starEach [b] env)).any (·.1) = false := by rfl) :
    wpAny (model pg w) A (callWith pos (.builtin id) first (backTo pos (starEach [a, b] env)) []) Q E s := by
  have h2 : wpAny (model pg w) A (spliced (backTo pos (starEach [a, b] env))) (fun vs s₁ => wpAny (model pg w) A (call (.builtin id) (first ++ vs)) Q E s₁) E s := wpAny_items_cons (wpAny_mono h (fun _ _ z => wpAny_items_cons (wpAny_mono z (fun _ _ z => wpAny_items_nil z) fun _ _ z => z) he2) fun _ _ z => z) he
  rw [he] at h2 ⊢
  exact Calls.callWith_builtin (by show (false || (backTo pos (starEach [b] env)).any (·.1)) = false; rw [hp]; rfl) (Calls.evalArgs_plain h2)
theorem store_ok {A₀ : Ad} {t : It} {c : Sc} {x : DV} {v : Value} (S : Sp w s₀ (objs σ ++ R) s) (hA : Rm A 5) (hc : σ.At t c) (hv : er v = x.val) (okx : x.ok σ) (okc : c.val.ok σ) (hl : (σ.take x).loose c.val) (hz : σ.zero.length ≤ 1000)
    (h : ∀ s', Sp w s₀ (objs (((σ.take x).setv t x).untake c.val) ++ R) s' → Q .none s') (eA₀ : σ.A = A₀ := by rfl) : wpAny (model pg w) A (call (.ref 513) [.ref A₀.ctr, .ref t.a, v]) Q E s := by
  subst eA₀
  obtain ⟨tA, tl, tr, ts, tz⟩ := take_A (σ := σ) (x := x)
  refine callS [(k "value", v), (k "scalar", .ref t.a), (k "self", .ref σ.A.ctr)] S hA.lt rfl (by kernel_rfl) (BindsTo.of_eq rfl) (fun L s1 S1 => ?_)
  refine wpAny_execs_cons (wpAny_Expr (callM (Attribute_any_ (nmL S1 (mR (.head _)) rfl (getAr S1 (mF (i := 3) rfl) (mF (i := 4) rfl) rfl (by kernel_rfl) fun s2 S2 => ?_)))))
  refine mtDPop S2 (mF (i := 5) rfl) ?_
  refine bm2 (Attribute_any_ (nmL S2 (mR (.head _)) rfl (getA S2 (scI hc) (scD hc) rfl (by kernel_rfl) fun v3 s3 ev S3 => ?_)))
  obtain ⟨t3, rfl⟩ := er_int ev
  refine wpAny_Constant_none (popNo S3 (mF (i := 5) rfl) fun s4 S4 => ?_)
  refine wpAny_execs_cons (wpAny_Expr (callM (Attribute_any_ (nmL S4 (mR (.head _)) rfl (getAr S4 (mF (i := 3) rfl) (mF (i := 4) rfl) rfl (by kernel_rfl) fun s5 S5 => ?_)))))
  refine mtDPop S5 (mF (i := 6) rfl) ?_
  refine bm2 (Attribute_any_ (nmL S5 (mR (.head _)) rfl (getA S5 (scI hc) (scD hc) rfl (by kernel_rfl) fun v6 s6 ev S6 => ?_)))
  obtain ⟨t6, rfl⟩ := er_int ev
  refine wpAny_Constant_none (popNo S6 (mF (i := 6) rfl) fun s7 S7 => ?_)
  refine wpAny_execs_cons (wpAny_If (wpAny_isTrue_Compare1 (Attribute_any_ (nmL S7 (mR (.head _)) rfl (getA S7 (scI hc) (scD hc) rfl (by kernel_rfl) fun v8 s8 ev S8 => ?_)))))
  obtain rfl := er_none ev
  refine wpAny_Constant_none (isnot_none_gen (wpAny_truthy_bool (wpAny_execs_nil ?_)))
  refine wpAny_execs_cons (asgL S8 (Attribute_any_ (nmL S8 (mR (.head _)) rfl (getA S8 (scI hc) (scD hc) rfl (by kernel_rfl) (fun v9 s9 ev S9 => ⟨_, _, L, _, S9, uR .head, rfl, fun s10 S10 => ?_⟩) (by cases c.val <;> rfl)))))
  refine wpAny_execs_cons (asg (callM (nmL S10 (mR (.head _)) rfl (mtI (f := 501) S10 (mF (i := 3) rfl) (mF (i := 4) rfl) rfl (by kernel_rfl) (df1 S10 (by kernel_rfl) (nmL S10 (mR (.head _)) rfl ⟨⟨_, S10⟩, ?_⟩))))))
  refine take_spec S10 ((hA.down _).le (by decide)) hv okx fun s11 S11 => nmL S11 (mR (.head _)) rfl ?_
  have hc' : (σ.take x).At t c := ⟨by rw [ts]; exact hc.1, hc.2⟩
  have U := uS (R := (L, .ns (put [(k "value", v), (k "scalar", .ref t.a), (k "self", .ref σ.A.ctr)] (k "old") v9)) :: R) (σ := σ.take x) (c' := c.setv x) hc'.1 (.tail (.head (x := .dict (scF c.num c.cnt c.wk c.freed c.val.val)) (y := .dict (scF c.num c.cnt c.wk c.freed x.val)) (a := c.d)))
  rw [← setv_eq hc'] at U
  refine setA S11 (scI hc') (by rw [hv]; exact U) (by kernel_rfl) fun s12 S12 => ?_
  have mA : ((σ.take x).setv t x).A = σ.A := tA
  refine wpAny_execs_cons (wpAny_Expr (callM (nmL S12 (mR (.head _)) rfl (mtI (f := 506) S12 (C := 551) (d := σ.A.cd) (by rw [← mA]; exact mF (i := 3) rfl) (by rw [← mA]; exact mF (i := 4) rfl) rfl (by kernel_rfl) (df2 S12 (by kernel_rfl) (nmL S12 (mR (.head _)) rfl (nmL S12 (mR (.head _)) rfl ⟨⟨_, S12⟩, ?_⟩)))))))
  refine put_off_ok S12 ((hA.down _).le (by decide)) ev (ok_of okc tr) ?_ (by show (σ.take x).zero.length ≤ _; rw [tz]; exact hz) (fun s13 S13 => ?_) mA
  · revert hl; cases c.val <;> exact fun h => h
  · exact wpAny_execs_nil (h _ S13.out1)
end
end Mine
end
section
open PySem PySem.W PySem.Calls PyProof.Rows
set_option maxRecDepth 100000
namespace Mine
section
variable {w : World} {s₀ s : Shared} {W W' X R : Led} {A : Around} {E : Value → Shared → Prop} {Q : Value → Shared → Prop} {env : Env} {σ : Dm} {b : Bool}
theorem itAt {j : Nat} {t : Tok} {o : Option It} {value slice : Expr} {p : Addr} (S : Sp w s₀ (objs σ ++ R) s) (hp : σ.ip b = p) (hj : (σ.it b)[j]? = some o) (hz2 : (σ.it b).length ≤ 900) (h : ∀ v s', er v = itV o → Sp w s₀ (objs σ ++ R) s' → Q v s')
    (hs : subscripted slice false (.ref p) (.int j t) = operate [.ref p, .int j t] (getItem (.ref p) (.int j t)) := by with_unfolding_all rfl) :
    wpAny (model pg w) A (subscriptTail value slice (.ref p) (.int j t)) Q E s :=
  kba_turn (value' := .Name (Str.ofString "_") ⟨0, 0, 0, 0⟩) (fun _ => rfl) (itL S (arL' hp rfl) (by lia) (x := itV o) (by rw [List.getElem?_map, Int.toNat_natCast, hj]; rfl) (by rw [List.length_map]; lia) h hs)
theorem escalar_ok {i m : Int} {j : Nat} {t u : Tok} {o : Option It} (S : Sp w s₀ (objs σ ++ R) s) (hA : Rm A 8) (hi : i < 0) (hj : i + (σ.it b).length = j) (hjo : (σ.it b)[j]? = some o) (hz2 : (σ.it b).length ≤ 900)
    (h1 : ∀ t, o = some t → ∀ s', Sp w s₀ (objs σ ++ R) s' → Q (.ref t.a) s')
    (h2 : o = none → ∀ c s', newOk σ.last [.none] [c] → Sp w s₀ (objs ((σ.made [.none] [c]).setIt b ((σ.it b).set j (some ⟨σ.scs.length, c.a⟩))) ++ R) s' → Q (.ref c.a) s') :
    wpAny (model pg w) A (call (.ref 369) [.ref σ.A.ctr, .ref (σ.A.ar b), .int i t, .int m u]) Q E s := by
  have hlt := (List.getElem?_eq_some_iff.mp hjo).1
  refine callS [(k "most", .int m u), (k "index", .int i t), (k "array", .ref (σ.A.ar b)), (k "counter", .ref σ.A.ctr)] S hA.lt rfl (by kernel_rfl) (BindsTo.of_eq rfl) (fun L s1 S1 => ?_)
  refine wpAny_execs_cons (asgL S1 (callN (nmG (v := .ref 348) S1 (by kernel_rfl) (df2 S1 (by kernel_rfl) (nmL S1 (mR (.head _)) rfl (nmL S1 (mR (.head _)) rfl ⟨⟨_, S1⟩, ?_⟩))))))
  refine place_neg S1 ((hA.down _).le (by decide)) hi (by lia) hz2 fun t2 s2 S2 => ⟨_, _, L, _, S2, uR .head, rfl, fun s3 S3 => ?_⟩
  rw [hj] at S3
  refine wpAny_execs_cons (wpAny_If (wpAny_isTrue_Compare1 (nmL S3 (mR (.head _)) rfl (wpAny_Constant_int (PyProof.Rows.lt_int (wpAny_truthy_bool ?_))))))
  rw [decide_eq_false (by lia)]
  have S4 := S3.toks (s3.toks + 1)
  refine wpAny_execs_nil (wpAny_execs_cons (wpAny_If (wpAny_isTrue_Compare1 (nmL S4 (mR (.head _)) rfl ?_))))
  refine callN (nmB (v := .builtin "len") S4 (by kernel_rfl) (by kernel_rfl) (bi1 (Attribute_any_ (nmL S4 (mR (.head _)) rfl (getItems S4 fun s5 S5 => ?_)))))
  refine lenL S5 arL (fun t6 s6 S6 => PyProof.Rows.ge_int (wpAny_truthy_bool ?_)) (by rw [List.length_map]; lia)
  rw [List.length_map, decide_eq_false (by lia)]
  refine wpAny_execs_nil (wpAny_execs_cons (wpAny_If (wpAny_isTrue_Compare1 (Subscript_ (Attribute_any_ (nmL S6 (mR (.head _)) rfl (getItems S6 fun s7 S7 => nmL S7 (mR (.head _)) rfl ?_)))))))
  refine itAt S7 rfl hjo hz2 fun v s8 hv S8 => wpAny_Constant_none (is_none_gen (wpAny_truthy_bool ?_))
  cases o with
  | some t =>
    obtain rfl := er_ref hv
    refine wpAny_execs_nil (wpAny_execs_cons (wpAny_Return_some (Subscript_ (Attribute_any_ (nmL S8 (mR (.head _)) rfl (getItems S8 fun s9 S9 => nmL S9 (mR (.head _)) rfl ?_))))))
    refine itAt S9 rfl hjo hz2 fun v s10 hv S10 => ?_
    obtain rfl := er_ref hv
    exact h1 t rfl _ S10.out1
  | none =>
    obtain rfl := er_none hv
    refine wpAny_execs_cons (wpAny_Assign_Subscript ?_)
    refine callM (nmL S8 (mR (.head _)) rfl (mtI (f := 520) S8 (mF (i := 3) rfl) (mF (i := 4) rfl) rfl (by kernel_rfl) (df1 S8 (by kernel_rfl) (wpAny_Constant_none ⟨⟨_, S8⟩, ?_⟩))))
    refine fresh_spec (x := .none) S8 ((hA.down _).le (by decide)) rfl trivial fun c s9 hc S9 => ?_
    change Sp w s₀ (objs (σ.made [.none] [c]) ++ _) s9 at S9
    obtain ⟨eA, ep, ei⟩ := made_f (b := b) σ [.none] [c]
    refine Attribute_any_ (nmL S9 (mR (.head _)) rfl (getItems' (p := σ.ip b) S9 eA ep fun s10 S10 => nmL S10 (mR (.head _)) rfl ?_))
    refine stI S10 (by lia) (by rw [List.length_map]; lia) (by rw [List.length_map]; lia) (arUz (its := (σ.it b).set j (some ⟨σ.scs.length, c.a⟩)) ep ei rfl (by rw [List.map_set, Int.toNat_natCast]; rfl)) fun s11 S11 => ?_
    obtain ⟨e1, e2, e3⟩ := setIt_it (σ := σ.made [.none] [c]) (b := b) (its := (σ.it b).set j (some ⟨σ.scs.length, c.a⟩))
    refine wpAny_execs_nil (wpAny_execs_cons (wpAny_Return_some (Subscript_ (Attribute_any_ (nmL S11 (mR (.head _)) rfl (getItems' (p := σ.ip b) S11 (e3.trans eA) (e2.trans ep) fun s12 S12 => nmL S12 (mR (.head _)) rfl ?_))))))
    refine itAt (o := some ⟨σ.scs.length, c.a⟩) (b := b) S12 (e2.trans ep) (by rw [e1, List.getElem?_set_self hlt]) (by rw [e1, List.length_set]; exact hz2) fun v s13 hv S13 => ?_
    obtain rfl := er_ref hv
    exact h2 rfl c _ hc S13.out1
end
end Mine
end
section
open PySem PySem.W PySem.Calls PyProof.Rows
set_option maxRecDepth 100000
namespace Mine
section
variable {w : World} {s₀ s : Shared} {W W' X R : Led} {A : Around} {E : Value → Shared → Prop} {Q : Value → Shared → Prop} {env : Env} {σ : Dm} {b : Bool}
noncomputable def Dm.rl (σ : Dm) (sc : List Int) (r : Int) : Dm := { σ with script := sc, rolled := r }
noncomputable def Dm.tape (σ : Dm) (n : Int) : Prop := σ.script.length ≤ 60 ∧ 0 ≤ σ.rolled ∧ σ.rolled + n ≤ 100000
theorem cupD : (σ.A.cup, SO.dict [(k "script", .ref σ.A.scr), (k "rolled", vi σ.rolled), (k "counter", .ref σ.A.ctr), (k "things", .ref σ.A.thl), (k "one", .ref σ.A.a1), (k "other", .ref σ.A.a2)]) ∈ objs σ ++ R := mF (i := 0) rfl
theorem fmod_rng {a b : Int} (h : 0 < b) : 0 ≤ a.fmod b ∧ a.fmod b < b := ⟨Int.fmod_nonneg_of_pos a h, Int.fmod_lt_of_pos a h⟩
theorem bits_small {i : Int} (h0 : 0 ≤ i) (h : i ≤ 100000) : Builtin.Int.intBits i ≤ 18 := by
  unfold Builtin.Int.intBits
  split
  · lia
  · rename_i q
    have h1 : i.natAbs ≠ 0 := by intro e; have : i = 0 := by lia
                                 subst this; exact q rfl
    have := (Nat.log2_lt (k := 17) h1).mpr (by lia)
    lia
theorem not_big {i : Int} (h0 : 0 ≤ i) (h : i ≤ 100000) : ¬ Builtin.Int.intTooBig (((Builtin.Int.intBits i : Nat) : Int) * 2) = true := by
  have hb := bits_small h0 h
  unfold Builtin.Int.intTooBig
  generalize hL : bitsLine = L
  have : (L : Int) = 134217728 := by rw [← hL]; rfl
  simp only [decide_eq_true_eq]
  lia
theorem sq_int {i : Int} {t u : Tok} (h1 : 1 ≤ i) (h2 : i ≤ 100000) (h : Q (.int (i ^ 2) s.toks) { s with toks := s.toks + 1 }) : wpAny (model pg w) A (binaryOp .Pow (.int i t) (.int 2 u)) Q E s := by
  by_cases q : i = 1
  · subst q
    exact AutoIntOps.pow_1 (by decide) (by decide) (by decide) h
  · refine AutoIntOps.pow_4 (by decide) (by decide) ?_ ?_ (not_big (by lia) h2) h
    · simp only [Bool.or_eq_true, beq_iff_eq]; lia
    · simp only [beq_iff_eq]; lia
theorem neNil {l b : Addr} {xs : List Value} (S : Sp w s₀ W s) (hu : A.units < cLine) (hl : (l, .list xs) ∈ W) (hb : (b, .list []) ∈ W) (h : Q (.bool (!xs.isEmpty)) s) : wpAny (model pg w) A (compareOp .NotEq (.ref l) (.ref b)) Q E s := by
  obtain ⟨vs, h1, h2⟩ := S.isList hl
  obtain ⟨us, h3, h4⟩ := S.isList hb
  have eu : us = [] := List.map_eq_nil_iff.mp h4
  subst eu
  show wpAny _ _ (richCompare .NotEq _ _) _ _ _
  cases vs with
  | nil =>
    subst h2
    exact SeqAt.RcNeAt.lists (e := fun _ => true) h1 h3 rfl hu (fun j h1 => by simp at h1) _ _ _ _ h
  | cons v vs =>
    subst h2
    exact SeqAt.RcNeAt.lists_lengths h1 h3 (by simp) hu _ _ _ _ h
theorem roll_spec {A₀ : Ad} {n : Int} {t : Tok} (S : Sp w s₀ (objs σ ++ R) s) (hA : Rm A 2) (hn : 0 < n) (ht : σ.tape 1) (h : ∀ i t sc s', 0 ≤ i → i < n → sc.length ≤ 60 → Sp w s₀ (objs (σ.rl sc (σ.rolled + 1)) ++ R) s' → Q (.int i t) s') (eA₀ : σ.A = A₀ := by rfl) : wpAny (model pg w) A (call (.ref 585) [.ref A₀.cup, .int n t]) Q E s := by
  subst eA₀
  refine callS [(k "many", .int n t), (k "cup", .ref σ.A.cup)] S hA.lt rfl (by kernel_rfl) (BindsTo.of_eq rfl) (fun L s1 S1 => ?_)
  refine wpAny_execs_cons (wpAny_AugAssign_SubscriptAny (nmL S1 (mR (.head _)) rfl (wpAny_Constant_str (gdI (S1.toks _) cupD rfl (fun v s2 ev S2 => ?_)))))
  obtain ⟨t2, rfl⟩ := er_int ev
  refine wpAny_Constant_int (PyProof.Rows.iadd_int ?_)
  refine sdI ((S2.toks _).toks _) (uF (i := 0) (σ' := { σ with rolled := σ.rolled + 1 }) rfl rfl) (fun s3 S3 => ?_)
  refine wpAny_execs_cons (wpAny_If (wpAny_isTrue_Compare1 (Subscript_ (nmL S3 (mR (.head _)) rfl (wpAny_Constant_str (gdr (S3.toks _) cupD rfl (fun s4 S4 => ?_)))))))
  refine List_ (wpAny_items_nil (newL S4 fun nl s5 S5 => ?_))
  refine neNil S5 (hA.down _).cl (.tail _ (mF (i := 1) rfl)) (.head _) (wpAny_truthy_bool ?_)
  have S6 := S5.sub (List.sublist_cons_self _ _)
  obtain ⟨t1, t2, t3⟩ := ht
  cases hsc : σ.script with
  | nil =>
    refine wpAny_execs_nil (wpAny_execs_cons (wpAny_Return_some (wpAny_BinOp (wpAny_BinOp (wpAny_BinOp (wpAny_BinOp (wpAny_Constant_int ?_)))))))
    refine Subscript_ (nmL (S6.toks _) (mR (.head _)) rfl (wpAny_Constant_str (gd ((S6.toks _).toks _) cupD rfl (fun v s7 ev S7 => ?_))))
    obtain ⟨t7, rfl⟩ := er_int ev
    refine mul_int ?_ (IntMulOk.of_left (by decide +kernel))
    refine wpAny_BinOp (wpAny_BinOp (Subscript_ (nmL (S7.toks _) (mR (.head _)) rfl (wpAny_Constant_str (gd ((S7.toks _).toks _) cupD rfl (fun v s8 ev S8 => ?_))))))
    obtain ⟨t8, rfl⟩ := er_int ev
    refine wpAny_Constant_int (sq_int (by show 1 ≤ σ.rolled + 1; lia) (by show σ.rolled + 1 ≤ 100000; lia) (wpAny_Constant_int (floordiv_int (by decide) ?_ (.inl (PyProof.noPylong_small (by decide))))))
    refine PyProof.Rows.add_int (wpAny_Constant_int (PyProof.Rows.add_int (nmL ((((((S8.toks _).toks _).toks _).toks _).toks _).toks _) (mR (.head _)) rfl (mod_int (by lia) ?_))))
    obtain ⟨r1, r2⟩ := fmod_rng (a := 5 * (σ.rolled + 1) + ((σ.rolled + 1) ^ 2).fdiv 3 + 4) hn
    refine h _ _ [] _ r1 r2 (by decide) ?_
    have e : σ.rl [] (σ.rolled + 1) = { σ with rolled := σ.rolled + 1 } := by unfold Dm.rl; rw [← hsc]
    rw [e]
    exact (((((((S8.toks _).toks _).toks _).toks _).toks _).toks _).toks _).out1
  | cons x xs =>
    refine wpAny_execs_cons (wpAny_Return_some (wpAny_BinOp (callM (Subscript_ (nmL S6 (mR (.head _)) rfl (wpAny_Constant_str (gdr (S6.toks _) cupD rfl (fun s7 S7 => ?_))))))))
    refine mtPop S7 (mF (i := 1) rfl) (popIM S7 (wpAny_Constant_int ?_))
    refine ⟨_, _, vi x, xs.map vi, _, rfl, S7.toks _, uF (i := 1) (σ := { σ with rolled := σ.rolled + 1 }) (σ' := σ.rl xs (σ.rolled + 1)) (by show some (_, SO.list (σ.script.map vi)) = _; rw [hsc]; rfl) rfl, by rw [List.length_map]; rw [hsc, List.length_cons] at t1; lia, fun u s8 hu S8 => ?_⟩
    obtain ⟨t8, rfl⟩ := er_int hu
    refine nmL S8 (mR (.head _)) rfl (mod_int (by lia) ?_)
    obtain ⟨r1, r2⟩ := fmod_rng (a := x) hn
    refine h _ _ xs _ r1 r2 (by rw [hsc, List.length_cons] at t1; lia) (S8.toks _).out1
end
end Mine
end
section
open PySem PySem.W PySem.Calls PyProof.Rows
set_option maxRecDepth 100000
namespace Mine
noncomputable def Dm.addR (σ : Dm) (rs : List Rf) : Dm := { σ with refs := σ.refs ++ rs }
section
variable {w : World} {s₀ s : Shared} {W W' X R : Led} {A : Around} {E : Value → Shared → Prop} {Q : Value → Shared → Prop} {env : Env} {σ : Dm} {b : Bool}
theorem addRf {f : Rf} : (f.objs σ.A ++ (objs σ ++ R)).Perm (objs (σ.addR [f]) ++ R) := by
  have e : objs (σ.addR [f]) = fixed σ ++ ((σ.refs.flatMap (Rf.objs σ.A) ++ f.objs σ.A) ++ σ.scs.flatMap Sc.objs) := by
    show fixed σ ++ ((σ.refs ++ [f]).flatMap (Rf.objs σ.A) ++ σ.scs.flatMap Sc.objs) = _
    rw [List.flatMap_append]
    simp
  rw [e, ← List.append_assoc]
  refine List.Perm.append_right R ?_
  show (f.objs σ.A ++ (fixed σ ++ (σ.refs.flatMap (Rf.objs σ.A) ++ σ.scs.flatMap Sc.objs))).Perm _
  refine List.perm_append_comm.trans ?_
  rw [List.append_assoc, List.append_assoc, List.append_assoc]
  refine List.Perm.append_left _ (List.Perm.append_left _ List.perm_append_comm)
theorem ok_slice {x : Str} (hx : PyData.strOk x = true) (is : List Nat) : PyData.strOk ⟨(is.filterMap (x.cps[·]?)).toArray⟩ = true := by
  unfold PyData.strOk at hx ⊢
  rw [Array.all_eq_true_iff_forall_mem] at hx ⊢
  intro c hc
  rw [List.mem_toArray, List.mem_filterMap] at hc
  obtain ⟨i, _, hi⟩ := hc
  exact hx c (Array.mem_of_getElem? hi)
theorem sliceAny {x : Str} {t : Tok} {l u : Option (Int × Tok)} (hx : PyData.strOk x = true) (hl : x.length ≤ 1000) (S : Sp w s₀ W s) (h : ∀ y t s', PyData.strOk y = true → Sp w s₀ W s' → Q (.str y t) s') : (sliceMade x t l u none).post Q s := by
  unfold sliceMade
  split
  · exact h x t s hx S
  · refine ⟨?_, h _ _ _ (ok_slice hx _) (S.toks _)⟩
    refine Nat.le_trans ?_ (fit hl)
    show ((slicePicked x l u none).filterMap (x.cps[·]?)).toArray.size ≤ _
    rw [List.size_toArray]
    exact Nat.le_trans (List.length_filterMap_le ..) (sliceIndices_le _ _ _)
theorem slS {value : Expr} {lower upper : Option Expr} {p pos : Pos}
    (h : wpAny (model pg w) A (eval value env) (fun o s₁ => wpAny (model pg w) A (evalPart lower env) (fun vl s₂ => wpAny (model pg w) A (evalPart upper env) (fun vu s₃ =>
      ∃ W x t l u, o = .str x t ∧ vl = partValue l ∧ vu = partValue u ∧ PyData.strOk x = true ∧ x.length ≤ 1000 ∧ Sp w s₀ W s₃ ∧ ∀ y t s', PyData.strOk y = true → Sp w s₀ W s' → Q (.str y t) s') E s₂) E s₁) E s) :
    wpAny (model pg w) A (eval (.Subscript value (.Slice lower upper none p) pos) env) Q E s := by
  refine Subscript_ (wpAny_mono h (fun o s₁ h₁ => wpAny_Slice (wpAny_mono h₁ (fun vl s₂ h₂ => wpAny_mono h₂ (fun vu s₃ h₃ => ?_) fun _ _ e => e) fun _ _ e => e)) fun _ _ e => e)
  rw [evalPart_none]
  refine wpAny_pure ?_
  obtain ⟨W, x, t, l, u, rfl, rfl, rfl, hx, hl, S, z⟩ := h₃
  have S1 := S.push (t := s₃.toks) (o := { cls := .type "slice", data := .fields #[partValue l, partValue u, .none] }) (x := .raw fun _ => True) trivial
  exact slTail (typeIs_str _ x t) F.slot_str_getitem.lookup (wpAny_getItem_str_slice (l := l) (u := u) (st := none) ⟨_, Heap.get?_push_size _ rfl, rfl, rfl⟩ rfl (sliceAny hx hl S1 fun y t s' hy S' => z y t s' hy (S'.sub (List.sublist_cons_self _ _))))
theorem value_spec {A₀ : Ad} (S : Sp w s₀ (objs σ ++ R) s) (hA : Rm A 4) (ht : σ.tape 2)
    (h : ∀ (x : DV) v sc r rs s', er v = x.val → x.ok ((σ.rl sc r).addR rs) → sc.length ≤ 60 → σ.rolled ≤ r → r ≤ σ.rolled + 2 → Sp w s₀ (objs ((σ.rl sc r).addR rs) ++ R) s' → Q v s') (eA₀ : σ.A = A₀ := by rfl) : wpAny (model pg w) A (call (.ref 592) [.ref A₀.cup]) Q E s := by
  subst eA₀
  obtain ⟨t1, t2, t3⟩ := ht
  refine callS [(k "cup", .ref σ.A.cup)] S hA.lt rfl (by kernel_rfl) (BindsTo.of_eq rfl) (fun L s1 S1 => ?_)
  refine wpAny_execs_cons (asgL S1 (callN (nmG (v := .ref 585) S1 (by kernel_rfl) (df2 S1 (by kernel_rfl) (nmL S1 (mR (.head _)) rfl (wpAny_Constant_int ⟨⟨_, S1.toks _⟩, ?_⟩))))))
  refine roll_spec (S1.toks _) ((hA.down _).le (by decide)) (by decide) ⟨t1, t2, by lia⟩ fun i t sc s2 i0 i5 hsc S2 => ⟨_, _, L, _, S2, uR .head, rfl, fun s3 S3 => ?_⟩
  have e0 : ∀ σ' : Dm, σ' = σ'.addR [] := fun σ' => by unfold Dm.addR; rw [List.append_nil]
  refine wpAny_execs_cons (wpAny_If (wpAny_isTrue_Compare1 (nmL S3 (mR (.head _)) rfl (wpAny_Constant_int (PyProof.Rows.lt_int (wpAny_truthy_bool ?_))))))
  have S4 := S3.toks (s3.toks + 1)
  by_cases q : i < 2
  · simp only [decide_eq_true q, if_true]
    refine wpAny_execs_cons (wpAny_Return_some (callN (nmG (v := .ref 155) S4 (by kernel_rfl) (df1 S4 (by kernel_rfl) (Subscript_ (Subscript_ (nmL S4 (mR (.head _)) rfl (wpAny_Constant_str (gd (S4.toks _) (cupD (σ := σ.rl sc (σ.rolled + 1))) rfl (fun v s5 ev S5 => nmL S5 (mR (.head _)) rfl ?_))))))))))
    obtain rfl := er_ref ev
    have hx : ([.ref σ.A.t0, .ref σ.A.t1] : List Value)[i.toNat]? = some (.ref (σ.A.tg (decide (i = 1)))) := by
      have : i = 0 ∨ i = 1 := by lia
      rcases this with rfl | rfl <;> rfl
    refine kba_turn (value' := .Name (Str.ofString "_") ⟨0, 0, 0, 0⟩) (fun _ => rfl) (itL S5 (mF (σ := σ.rl sc (σ.rolled + 1)) (i := 2) rfl) i0 hx (by simp) fun v s6 ev S6 => ⟨⟨_, S6⟩, ?_⟩)
    refine mkC (fI := 152) S6 (by kernel_rfl) (by kernel_rfl) (by kernel_rfl) fun x d s7 S7 => ?_
    refine ref_init (Q := fun _ s'' => Q (.ref x) s'') S7 (((hA.down _).le (by decide)).make) fun s8 S8 => ?_
    rw [ev] at S8
    have S9 := S8.perm (W' := objs ((σ.rl sc (σ.rolled + 1)).addR [⟨x, d, decide (i = 1)⟩]) ++ _) (addRf (σ := σ.rl sc (σ.rolled + 1)) (f := ⟨x, d, decide (i = 1)⟩))
    exact h (.rf ⟨x, d, decide (i = 1)⟩) _ sc _ [⟨x, d, decide (i = 1)⟩] _ rfl (List.mem_append_right _ (.head _)) hsc (by lia) (by lia) S9.out1
  · simp only [decide_eq_false q]
    refine wpAny_execs_nil (wpAny_execs_cons (wpAny_If (wpAny_isTrue_Compare1 (nmL S4 (mR (.head _)) rfl (wpAny_Constant_int (PyProof.Rows.eq_int (wpAny_truthy_bool ?_)))))))
    have S5 := S4.toks (s3.toks + 1 + 1)
    by_cases q3 : i = 3
    · subst q3
      refine wpAny_execs_cons (wpAny_Return_some (wpAny_BinOp (callN (nmG (v := .ref 585) S5 (by kernel_rfl) (df2 S5 (by kernel_rfl) (nmL S5 (mR (.head _)) rfl (wpAny_Constant_int ⟨⟨_, S5.toks _⟩, ?_⟩)))))))
      refine roll_spec (S5.toks _) ((hA.down _).le (by decide)) (by decide) ⟨hsc, by show 0 ≤ σ.rolled + 1; lia, by show σ.rolled + 1 + 1 ≤ _; lia⟩ (fun j t sc' s6 j0 j5 hsc' S6 => wpAny_Constant_int (PyProof.Rows.sub_int ?_)) rfl
      have S7 := ((S6.toks (s6.toks + 1)).toks (s6.toks + 1 + 1)).out1
      rw [e0 ((σ.rl sc (σ.rolled + 1)).rl sc' _)] at S7
      exact h (.int (j - 20)) _ sc' (σ.rolled + 1 + 1) [] _ rfl trivial hsc' (by lia) (by lia) S7
    · have : (i == 3) = false := beq_eq_false_iff_ne.mpr q3
      rw [this]
      refine wpAny_execs_nil (wpAny_execs_cons (wpAny_Return_some (IfExp_ (wpAny_isTrue_Compare1 (nmL S5 (mR (.head _)) rfl (wpAny_Constant_int (PyProof.Rows.eq_int (wpAny_truthy_bool ?_))))))))
      have S6 := S5.toks (s3.toks + 1 + 1 + 1)
      by_cases q2 : i = 2
      · subst q2
        refine wpAny_Constant_none ?_
        have S7 := S6.out1
        rw [e0 (σ.rl sc (σ.rolled + 1))] at S7
        exact h .none _ sc _ [] _ rfl trivial hsc (by lia) (by lia) S7
      · have : (i == 2) = false := beq_eq_false_iff_ne.mpr q2
        rw [this]
        refine slS (s₀ := s₀) (wpAny_Constant_str (evalPart_none_step (evalPart_some_step (callN (nmG (v := .ref 585) (S6.toks _) (by kernel_rfl) (df2 (S6.toks _) (by kernel_rfl) (nmL (S6.toks _) (mR (.head _)) rfl (wpAny_Constant_int ⟨⟨_, (S6.toks _).toks _⟩, ?_⟩))))))))
        refine roll_spec ((S6.toks _).toks _) ((hA.down _).le (by decide)) (by decide) ⟨hsc, by show 0 ≤ σ.rolled + 1; lia, by show σ.rolled + 1 + 1 ≤ _; lia⟩ (fun j t sc' s7 j0 j5 hsc' S7 => ?_) rfl
        refine ⟨_, _, _, none, some (j, t), rfl, rfl, rfl, by decide +kernel, by decide +kernel, S7, fun y t s9 hy S9 => ?_⟩
        have S10 := S9.out1
        rw [e0 ((σ.rl sc (σ.rolled + 1)).rl sc' _)] at S10
        exact h (.str ⟨y, hy⟩) _ sc' (σ.rolled + 1 + 1) [] _ rfl trivial hsc' (by lia) (by lia) S10
end
end Mine
end
section
open PySem PySem.W PySem.Calls PyProof.Rows
set_option maxRecDepth 100000
namespace Mine
section
variable {w : World} {s₀ s : Shared} {W W' X R : Led} {A : Around} {E : Value → Shared → Prop} {Q : Value → Shared → Prop} {env : Env} {σ : Dm} {b : Bool}
theorem ty1 {T : String} {pos : Pos} {a : Expr} (h : wpAny (model pg w) A (eval a env) (fun v s₁ => wpAny (model pg w) A (call (.type T) [v]) Q E s₁) E s)
    (he : starEach [a] env = (false, eval a env) :: starEach [] env := by rfl) : wpAny (model pg w) A (callWith pos (.type T) [] (backTo pos (starEach [a] env)) []) Q E s := by
  have h2 : wpAny (model pg w) A (spliced (backTo pos (starEach [a] env))) (fun vs s₁ => wpAny (model pg w) A (call (.type T) ([] ++ vs)) Q E s₁) E s := wpAny_items_cons (wpAny_mono h (fun _ _ z => wpAny_items_nil z) fun _ _ z => z) he
  rw [he] at h2 ⊢
  exact PyProof.Rows.callWith_type (by rfl) (Calls.evalArgs_plain h2)
theorem ty2 {T : String} {pos : Pos} {a b : Expr} (h : wpAny (model pg w) A (eval a env) (fun v s₁ => wpAny (model pg w) A (eval b env) (fun u s₂ => wpAny (model pg w) A (call (.type T) [v, u]) Q E s₂) E s₁) E s)
    (he : starEach [a, b] env = (false, eval a env) :: starEach [b] env := by rfl) (he2 : starEach [b] env = (false, eval b env) :: starEach [] env := by rfl) (hp : (backTo pos (starEach [b] env)).any (·.1) = false := by rfl) :
    wpAny (model pg w) A (callWith pos (.type T) [] (backTo pos (starEach [a, b] env)) []) Q E s := by
  have h2 : wpAny (model pg w) A (spliced (backTo pos (starEach [a, b] env))) (fun vs s₁ => wpAny (model pg w) A (call (.type T) ([] ++ vs)) Q E s₁) E s := wpAny_items_cons (wpAny_mono h (fun _ _ z => wpAny_items_cons (wpAny_mono z (fun _ _ z => wpAny_items_nil z) fun _ _ z => z) he2) fun _ _ z => z) he
  rw [he] at h2 ⊢
  exact PyProof.Rows.callWith_type (by show (false || (backTo pos (starEach [b] env)).any (·.1)) = false; rw [hp]; rfl) (Calls.evalArgs_plain h2)
noncomputable def rgP (a n : Nat) (o : Obj) : Prop := ∃ t u v, o = { cls := .type "range", dict := none, data := .fields #[.int (a : Nat) t, .int (a + n : Nat) u, .int 1 v], slots := #[] }
theorem mkRange1 {n : Nat} {t : Tok} (S : Sp w s₀ W s) (h : ∀ r s', Sp w s₀ ((r, .raw (rgP 0 n)) :: W) s' → Q (.ref r) s') : wpAny (model pg w) A (call (.type "range") [.int n t]) Q E s := by
  refine call_range_1 (h _ _ (S.push (o := { cls := .type "range", data := .fields #[.int 0 s.toks, .int n t, .int 1 (s.toks + 1)] }) (x := .raw (rgP 0 n)) ⟨_, _, _, by rw [Nat.zero_add]; rfl⟩))
theorem mkRange2 {a n : Nat} {i j : Int} {t u : Tok} (S : Sp w s₀ W s) (hi : i = a) (hj : j = (a + n : Nat)) (h : ∀ r s', Sp w s₀ ((r, .raw (rgP a n)) :: W) s' → Q (.ref r) s') : wpAny (model pg w) A (call (.type "range") [.int i t, .int j u]) Q E s := by
  subst hi; subst hj
  exact call_range_2 (h _ _ (S.push (o := { cls := .type "range", data := .fields #[.int a t, .int (a + n : Nat) u, .int 1 s.toks] }) (x := .raw (rgP a n)) ⟨_, _, _, rfl⟩))
theorem rgSize {a n : Nat} : Builtin.Range.rangeSize a (a + n : Nat) 1 = n := by
  rw [rangeSize_nat]
  lia
theorem iterRg {r : Addr} {a n : Nat} (S : Sp w s₀ W s) (hr : (r, .raw (rgP a n)) ∈ W) (hz : a + n ≤ 1000) (h : ∀ I s', Sp w s₀ ((I, .raw (ripP a n 0)) :: W) s' → Q (.ref I) s') : wpAny (model pg w) A (pyIter (.ref r)) Q E s := by
  obtain ⟨o, e, t, u, v, z⟩ := S.at_ _ hr
  rw [z] at e
  refine wpAny_pyIter_range e ?_ ?_
  · exact small_one (by lia) (by lia) (by lia) (by lia)
  · rw [rgSize]
    exact h _ _ (S.push (t := s.toks) (o := { cls := .type "range_iterator", data := .fields #[rawInt a, rawInt n, rawInt 1] }) (x := .raw (ripP a n 0)) (by show _ = _; simp))
theorem addR_addR {rs rs' : List Rf} {sc sc' : List Int} {r r' : Int} : (((σ.rl sc r).addR rs).rl sc' r').addR rs' = (σ.rl sc' r').addR (rs ++ rs') := by
  unfold Dm.addR Dm.rl
  simp
theorem ok_addR {x : DV} {sc sc' : List Int} {r r' : Int} {rs rs' : List Rf} (h : x.ok ((σ.rl sc r).addR rs)) : x.ok ((σ.rl sc' r').addR (rs ++ rs')) := by
  cases x with
  | rf f =>
    have h' : f ∈ σ.refs ++ rs := h
    show f ∈ σ.refs ++ (rs ++ rs')
    rw [← List.append_assoc]; exact List.mem_append_left _ h'
  | _ => trivial
theorem values_spec {A₀ : Ad} {n : Nat} {t : Tok} (S : Sp w s₀ (objs σ ++ R) s) (hA : Rm A 6) (hn : n ≤ 10) (ht : σ.tape 30)
    (h : ∀ (ds : List DV) l sc r rs s', ds.length ≤ n → (∀ x ∈ ds, x.ok ((σ.rl sc r).addR rs)) → sc.length ≤ 60 → σ.rolled ≤ r → r ≤ σ.rolled + 30 → Sp w s₀ (objs ((σ.rl sc r).addR rs) ++ ((l, .list (ds.map DV.val)) :: R)) s' → Q (.ref l) s') (eA₀ : σ.A = A₀ := by rfl) :
    wpAny (model pg w) A (call (.ref 597) [.ref A₀.cup, .int n t]) Q E s := by
  subst eA₀
  obtain ⟨t1, t2, t3⟩ := ht
  refine callC1 [(k "most", .int n t)] (k "cup") (some (.ref σ.A.cup)) S hA.lt rfl (by kernel_rfl) rfl rfl rfl (fun L s1 S1 => ?_)
  refine wpAny_execs_cons (wpAny_Return_some ?_)
  refine compI (s₀ := s₀) (fun i acc X R' => ∃ (ds : List DV) (sc : List Int) (r : Int) (rs : List Rf), X = objs ((σ.rl sc r).addR rs) ∧ R' = ((L, .ns [(k "most", .int n t)]) :: (L + 1, .cell (some (.ref σ.A.cup))) :: R) ∧ acc = ds.map DV.val ∧ ds.length = i ∧ (∀ x ∈ ds, x.ok ((σ.rl sc r).addR rs)) ∧ sc.length ≤ 60 ∧ σ.rolled ≤ r ∧ r ≤ σ.rolled + 1 + 2 * i)
    rfl (by decide) rfl (by decide) rfl hA.2.2 ?_
  refine callN (nmB (v := .type "range") S1 (by kernel_rfl) (by kernel_rfl) (ty1 (callN (nmG (v := .ref 585) S1 (by kernel_rfl) (df2 S1 (by kernel_rfl) (nmC (c := L + 1) (v := .ref σ.A.cup) S1 (mR (.tail _ (.head _))) (wpAny_BinOp (nmL S1 (mR (.head _)) rfl (wpAny_Constant_int (PyProof.Rows.add_int ⟨⟨_, (S1.toks _).toks _⟩, ?_⟩))))))))))
  refine roll_spec ((S1.toks _).toks _) ((hA.down _).le (by decide)) (by lia) ⟨t1, t2, by lia⟩ fun i t sc s2 i0 i1 hsc S2 => ?_
  obtain ⟨m, rfl⟩ := Int.eq_ofNat_of_zero_le i0
  refine mkRange1 S2 fun rg s3 S3 => iterRg S3 (.head _) (by lia) fun I s4 S4 => ?_
  refine ⟨I, _, _, rgV 0 m, objs (σ.rl sc (σ.rolled + 1)), _, rfl, Itr.range, S4.sub (.cons_cons _ (.cons _ (.refl _))), ⟨[], sc, σ.rolled + 1, [], ?_, rfl, rfl, rfl, by simp, hsc, by lia, by lia⟩, by unfold rgV; simp; lia, ?_, ?_, ?_⟩
  · unfold Dm.addR; rw [List.append_nil]
  · rintro i acc X R' ⟨ds, sc, r, rs, rfl, rfl, rfl, e, _⟩
    exact ⟨by simp, by rw [List.length_map, e]; exact Nat.le_refl _⟩
  · rintro C D I i acc X R' v mm s E ⟨ds, sc, r, rs, rfl, rfl, rfl, e, hok, hsc, r1, r2⟩ hv hm S5
    have hi : i < m := by have := (List.getElem?_eq_some_iff.mp hv).1; unfold rgV at this; simpa using this
    refine wpAny_pure ?_
    rw [if_pos rfl]
    refine callN (nmG (v := .ref 592) S5 (by kernel_rfl) (df1 S5 (by kernel_rfl) (nmC (c := L + 1) (v := .ref σ.A.cup) S5 (mR (.tail _ (.tail _ (.tail _ (.tail _ (.head _)))))) ⟨⟨_, S5⟩, ?_⟩)))
    refine value_spec S5 ((hA.down _).le (by decide)) ⟨hsc, by show 0 ≤ r; lia, by show r + 2 ≤ _; lia⟩ (fun x v sc' r' rs' s6 hv' ok' hsc' r1' r2' S6 => ?_) rfl
    rw [addR_addR] at S6 ok'
    change r ≤ r' at r1'
    change r' ≤ r + 2 at r2'
    refine ⟨_, _, ⟨ds ++ [x], sc', r', rs ++ rs', rfl, rfl, ?_, ?_, ?_, hsc', by lia, by lia⟩, S6⟩
    · rw [List.map_append, hv']; rfl
    · rw [List.length_append, e]; rfl
    · intro y hy
      rcases List.mem_append.mp hy with hy | hy
      · exact ok_addR (hok y hy)
      · rw [List.mem_singleton.mp hy]; exact ok'
  · rintro acc X R' D s ⟨ds, sc, r, rs, rfl, rfl, rfl, e, hok, hsc, r1, r2⟩ S5
    have hm : (rgV 0 m).length = m := by unfold rgV; simp
    rw [hm] at e r2
    exact h ds D sc r rs s (by lia) hok hsc r1 (by lia) (S5.sub (.append_left (.cons_cons _ (.cons _ (.cons _ (.refl _)))) _))
end
end Mine
end
section
open PySem PySem.W PySem.Calls PyProof.Rows
set_option maxRecDepth 100000
namespace Mine
section
variable {w : World} {s₀ s : Shared} {W W' X R : Led} {A : Around} {E : Value → Shared → Prop} {Q : Value → Shared → Prop} {env : Env} {σ : Dm} {b : Bool}
theorem asT2 {x y : Str} {px py pos : Pos} {k' : Nat} {t L : Addr} {a c : Value} {m : List (Str × Value)} {Q : Unit → Shared → Prop} (S : Sp w s₀ (X ++ ((L, .ns m) :: R)) s) (hh : A.handled = none) (ht : (t, .tup [a, c]) ∈ X ++ ((L, .ns m) :: R))
    (h : ∀ u v s', er u = a → er v = c → Sp w s₀ (X ++ ((L, .ns (put (put m x u) y v)) :: R)) s' → Q () s') (he : env.locals = L := by rfl) (hk : env.scope.kind = .function := by rfl) (hx : env.kindOf x = some .local := by rfl) (hy : env.kindOf y = some .local := by rfl)
    (hq : assignEach [.Name x px, .Name y py] env = [(false, assign (.Name x px) env), (false, assign (.Name y py) env)] := by rfl) :
    wpAny (model pg w) A (assign (.Tuple [.Name x px, .Name y py] k' pos) env (.ref t)) Q E s := by
  obtain ⟨vs, n, e1, e2⟩ := S.tup ht
  rcases vs with _ | ⟨u, _ | ⟨v, _ | ⟨z, vs⟩⟩⟩
  · simp at e2
  · simp at e2
  · rw [List.map_cons, List.map_cons, List.map_nil] at e2
    obtain ⟨q1, q2⟩ := List.cons.inj e2
    obtain ⟨q2, _⟩ := List.cons.inj q2
    refine wpAny_assign_Tuple hh (items := #[u, v]) ⟨_, e1, rfl, n, rfl⟩ (by rw [hq]; rfl) (by rw [hq]; rfl) fun h' hs => ?_
    have S1 := S.grew (p := (L, .ns m)) (t := s.toks) (List.mem_append_right _ (.head _)) (h' := h') fun b o e => hs b o (Nat.ne_of_lt (Heap.lt_size e)) e
    rw [hq]
    show wpAny _ _ (assignInOrder [assign (.Name x px) env, assign (.Name y py) env] [u, v]) _ _ _
    simp only [assignInOrder]
    refine wpAny_bind (wpAny_holding (asgN S1 (Upd.right .head) (fun s2 S2 => ?_) he hk hx))
    refine wpAny_bind (wpAny_holding (asgN S2 (Upd.right .head) (fun s3 S3 => ?_) he hk hy))
    exact wpAny_pure (h u v _ q1 q2 S3)
  · simp at e2
inductive Sw2Z (w : World) (s₀ : Shared) (env : Env) (x y : Str) (tv : Value) (Q : Flow → Shared → Prop) (s : Shared) : Prop
  | mk (X R : Led) (t L : Addr) (a c : Value) (m : List (Str × Value)) (e : tv = .ref t) (S : Sp w s₀ (X ++ ((L, .ns m) :: R)) s) (ht : (t, .tup [a, c]) ∈ X ++ ((L, .ns m) :: R)) (he : env.locals = L)
      (h : ∀ u v s', er u = a → er v = c → Sp w s₀ (X ++ ((L, .ns (put (put m y v) x u)) :: R)) s' → Q .next s') : Sw2Z w s₀ env x y tv Q s
theorem sw2 {x y : Str} {elts : List Expr} {k k' : Nat} {tpos vpos px py pos : Pos} {Q : Flow → Shared → Prop} (_ : Sp w s₀ W s) (hh : A.handled = none)
    (h : wpAny (model pg w) A (eval (.Tuple elts k' vpos) env) (fun tv s₁ => Sw2Z w s₀ env x y tv Q s₁) E s)
    (hk : env.scope.kind = .function := by rfl) (hx : env.kindOf x = some .local := by rfl) (hy : env.kindOf y = some .local := by rfl)
    (hs : swapsWithSole [.Tuple [.Name x px, .Name y py] k tpos] (.Tuple elts k' vpos) pos.line env = pure false := by rfl)
    (hw : swappedStores [.Tuple [.Name x px, .Name y py] k tpos] (.Tuple elts k' vpos) env = pure (some [x, y]) := by rfl) :
    wpAny (model pg w) A (exec (.Assign [.Tuple [.Name x px, .Name y py] k tpos] (.Tuple elts k' vpos) pos) env) Q E s := by
  refine Assign_Tuple_swapped (wpAny_mono h (fun tv s₁ z => ?_) fun _ _ e => e) hs hw
  obtain ⟨X, R, t, L, a, c, m, rfl, S, ht, he, z⟩ := z
  obtain ⟨vs, n, e1, e2⟩ := S.tup ht
  rcases vs with _ | ⟨u, _ | ⟨v, _ | ⟨r, vs⟩⟩⟩
  · simp at e2
  · simp at e2
  · rw [List.map_cons, List.map_cons, List.map_nil] at e2
    obtain ⟨q1, q2⟩ := List.cons.inj e2
    obtain ⟨q2, _⟩ := List.cons.inj q2
    refine wpAny_unpackItems_tuple (items := #[u, v]) hh ⟨_, e1, rfl, n, rfl⟩ fun h' hs => ?_
    have S1 := S.grew (p := (L, .ns m)) (t := s₁.toks) (List.mem_append_right _ (.head _)) (h' := h') fun b o e => hs b o (Nat.ne_of_lt (Heap.lt_size e)) e
    show wpAny _ _ (assignInOrder [fun z => bindName env y z, fun z => bindName env x z] [v, u]) _ _ _
    simp only [assignInOrder]
    refine wpAny_bind (wpAny_holding (bindName_ (stL S1 (Upd.right .head) (fun s2 S2 => ?_) he hk hy)))
    refine wpAny_bind (wpAny_holding (bindName_ (stL S2 (Upd.right .head) (fun s3 S3 => ?_) he hk hx)))
    exact wpAny_pure (z u v _ q1 q2 S3)
  · simp at e2
inductive Sw3Z (w : World) (s₀ : Shared) (env : Env) (x y z : Str) (tv : Value) (Q : Flow → Shared → Prop) (s : Shared) : Prop
  | mk (X R : Led) (t L : Addr) (a c d : Value) (m : List (Str × Value)) (e : tv = .ref t) (S : Sp w s₀ (X ++ ((L, .ns m) :: R)) s) (ht : (t, .tup [a, c, d]) ∈ X ++ ((L, .ns m) :: R)) (he : env.locals = L)
      (h : ∀ u v r s', er u = a → er v = c → er r = d → Sp w s₀ (X ++ ((L, .ns (put (put (put m z r) y v) x u)) :: R)) s' → Q .next s') : Sw3Z w s₀ env x y z tv Q s
theorem sw3 {x y z : Str} {elts : List Expr} {k k' : Nat} {tpos vpos px py pz pos : Pos} {Q : Flow → Shared → Prop} (_ : Sp w s₀ W s) (hh : A.handled = none)
    (h : wpAny (model pg w) A (eval (.Tuple elts k' vpos) env) (fun tv s₁ => Sw3Z w s₀ env x y z tv Q s₁) E s)
    (hk : env.scope.kind = .function := by rfl) (hx : env.kindOf x = some .local := by rfl) (hy : env.kindOf y = some .local := by rfl) (hz : env.kindOf z = some .local := by rfl)
    (hs : swapsWithSole [.Tuple [.Name x px, .Name y py, .Name z pz] k tpos] (.Tuple elts k' vpos) pos.line env = pure false := by rfl)
    (hw : swappedStores [.Tuple [.Name x px, .Name y py, .Name z pz] k tpos] (.Tuple elts k' vpos) env = pure (some [x, y, z]) := by rfl) :
    wpAny (model pg w) A (exec (.Assign [.Tuple [.Name x px, .Name y py, .Name z pz] k tpos] (.Tuple elts k' vpos) pos) env) Q E s := by
  refine Assign_Tuple_swapped (wpAny_mono h (fun tv s₁ z => ?_) fun _ _ e => e) hs hw
  obtain ⟨X, R, t, L, a, c, d, m, rfl, S, ht, he, zz⟩ := z
  obtain ⟨vs, n, e1, e2⟩ := S.tup ht
  rcases vs with _ | ⟨u, _ | ⟨v, _ | ⟨r, _ | ⟨r', vs⟩⟩⟩⟩
  · simp at e2
  · simp at e2
  · simp at e2
  · rw [List.map_cons, List.map_cons, List.map_cons, List.map_nil] at e2
    obtain ⟨q1, q2⟩ := List.cons.inj e2
    obtain ⟨q2, q3⟩ := List.cons.inj q2
    obtain ⟨q3, _⟩ := List.cons.inj q3
    refine wpAny_unpackItems_tuple (items := #[u, v, r]) hh ⟨_, e1, rfl, n, rfl⟩ fun h' hs => ?_
    have S1 := S.grew (p := (L, .ns m)) (t := s₁.toks) (List.mem_append_right _ (.head _)) (h' := h') fun b o e => hs b o (Nat.ne_of_lt (Heap.lt_size e)) e
    show wpAny _ _ (assignInOrder [fun q => bindName env z q, fun q => bindName env y q, fun q => bindName env x q] [r, v, u]) _ _ _
    simp only [assignInOrder]
    refine wpAny_bind (wpAny_holding (bindName_ (stL S1 (Upd.right .head) (fun s2 S2 => ?_) he hk hz)))
    refine wpAny_bind (wpAny_holding (bindName_ (stL S2 (Upd.right .head) (fun s3 S3 => ?_) he hk hy)))
    refine wpAny_bind (wpAny_holding (bindName_ (stL S3 (Upd.right .head) (fun s4 S4 => ?_) he hk hx)))
    exact wpAny_pure (zz u v r _ q1 q2 q3 S4)
  · simp at e2
theorem form_spec {A₀ : Ad} {n p c : Nat} {t u v : Tok} (S : Sp w s₀ (objs σ ++ R) s) (hA : Rm A 4) (ht : σ.tape 2) (hpc : p + c ≤ n) (hn : n ≤ 900)
    (h : ∀ (i : Int) (l : Option Int) tp sc r s', (0 ≤ i ∨ 0 ≤ i + n) → plc n i = p → cntI n p l = c → sc.length ≤ 60 → σ.rolled ≤ r → r ≤ σ.rolled + 2 → Sp w s₀ (objs (σ.rl sc r) ++ ((tp, .tup [vi i, lvV l]) :: R)) s' → Q (.ref tp) s') (eA₀ : σ.A = A₀ := by rfl) :
    wpAny (model pg w) A (call (.ref 609) [.ref A₀.cup, .int n t, .int p u, .int c v]) Q E s := by
  subst eA₀
  obtain ⟨t1, t2, t3⟩ := ht
  refine callS [(k "count", .int c v), (k "begin", .int p u), (k "size", .int n t), (k "cup", .ref σ.A.cup)] S hA.lt rfl (by kernel_rfl) (BindsTo.of_eq rfl) (fun L s1 S1 => ?_)
  -- places
  refine cutN (fun s => ∃ (pl : Addr) (i : Int), (0 ≤ i ∨ 0 ≤ i + n) ∧ plc n i = p ∧ Sp w s₀ (objs σ ++ ((L, .ns [(k "count", .int c v), (k "begin", .int p u), (k "size", .int n t), (k "cup", .ref σ.A.cup), (k "places", .ref pl)]) :: (pl, .list [vi p, vi i]) :: R)) s) ?_ ?_
  · refine asgL S1 (List_ (wpAny_items_cons (nmL S1 (mR (.head _)) rfl (wpAny_items_cons (IfExp_ (wpAny_isTrue_Compare1 (nmL S1 (mR (.head _)) rfl (nmL S1 (mR (.head _)) rfl (PyProof.Rows.lt_int (wpAny_truthy_bool ?_)))))))))) 
    by_cases q : p < n
    · simp only [decide_eq_true (show (p : Int) < n by lia), if_true]
      refine wpAny_BinOp (nmL S1 (mR (.head _)) rfl (nmL S1 (mR (.head _)) rfl (PyProof.Rows.sub_int (wpAny_items_nil (newL (S1.toks _) fun pl s2 S2 => ⟨_, _, L, _, S2.inn, uR (.tail .head), rfl, fun s3 S3 => ⟨by first | rfl | trivial, pl, (p : Int) - n, ?_, ?_, S3.swap⟩⟩)))))
      · right; lia
      · unfold plc; rw [if_pos (by lia)]; lia
    · simp only [decide_eq_false (show ¬ (p : Int) < n by lia)]
      refine wpAny_BinOp (nmL S1 (mR (.head _)) rfl (wpAny_Constant_int (PyProof.Rows.add_int (wpAny_items_nil (newL ((S1.toks _).toks _) fun pl s2 S2 => ⟨_, _, L, _, S2.inn, uR (.tail .head), rfl, fun s3 S3 => ⟨by first | rfl | trivial, pl, (n : Int) + 3, ?_, ?_, S3.swap⟩⟩)))))
      · left; lia
      · unfold plc; rw [if_neg (by lia)]; lia
  · rintro s2 ⟨pl, i, hi, hp, S2⟩
    refine cutN (fun s => ∃ (ll : Addr) (ls : List (Option Int)), 0 < ls.length ∧ ls.length ≤ 3 ∧ (∀ l ∈ ls, cntI n p l = c) ∧ Sp w s₀ (objs σ ++ ((L, .ns [(k "count", .int c v), (k "begin", .int p u), (k "size", .int n t), (k "cup", .ref σ.A.cup), (k "places", .ref pl), (k "lengths", .ref ll)]) :: (ll, .list (ls.map lvV)) :: (pl, .list [vi p, vi i]) :: R)) s) ?_ ?_
    · refine asgL S2 (IfExp_ (wpAny_isTrue_Compare1 (wpAny_BinOp (nmL S2 (mR (.head _)) rfl (nmL S2 (mR (.head _)) rfl (PyProof.Rows.add_int (nmL (S2.toks _) (mR (.head _)) rfl (PyProof.Rows.eq_int (wpAny_truthy_bool ?_)))))))))
      have S3 := S2.toks (s2.toks + 1)
      by_cases q : p + c = n
      · have : ((p : Int) + c == n) = true := by rw [beq_iff_eq]; lia
        rw [this, if_pos rfl]
        refine List_ (wpAny_items_cons (nmL S3 (mR (.head _)) rfl (wpAny_items_cons (wpAny_BinOp (nmL S3 (mR (.head _)) rfl (wpAny_Constant_int (PyProof.Rows.add_int (wpAny_items_cons (wpAny_Constant_none (wpAny_items_nil (newL ((S3.toks _).toks _) fun ll s4 S4 => ?_)))))))))) )
        refine ⟨_, _, L, _, S4.inn, uR (.tail .head), rfl, fun s5 S5 => ⟨rfl, ll, [some (c : Int), some ((c : Int) + 2), none], by simp, by simp, ?_, S5.swap⟩⟩
        intro l hl
        simp only [List.mem_cons, List.not_mem_nil, or_false] at hl
        rcases hl with rfl | rfl | rfl <;> unfold cntI <;> dsimp only
        · rw [if_neg (by lia)]; lia
        · rw [if_neg (by lia)]; lia
        · lia
      · have : ((p : Int) + c == n) = false := by rw [beq_eq_false_iff_ne]; lia
        rw [this, if_neg Bool.false_ne_true]
        refine List_ (wpAny_items_cons (nmL S3 (mR (.head _)) rfl (wpAny_items_cons (wpAny_BinOp (wpAny_BinOp (nmL S3 (mR (.head _)) rfl (nmL S3 (mR (.head _)) rfl (PyProof.Rows.add_int (nmL (S3.toks _) (mR (.head _)) rfl (PyProof.Rows.sub_int (wpAny_items_nil (newL ((S3.toks _).toks _) fun ll s4 S4 => ?_))))))))))))
        refine ⟨_, _, L, _, S4.inn, uR (.tail .head), rfl, fun s5 S5 => ⟨rfl, ll, [some (c : Int), some ((p : Int) + c - n)], by simp, by simp, ?_, S5.swap⟩⟩
        intro l hl
        simp only [List.mem_cons, List.not_mem_nil, or_false] at hl
        rcases hl with rfl | rfl <;> unfold cntI <;> dsimp only
        · rw [if_neg (by lia)]; lia
        · rw [if_pos (by lia)]; lia
    · rintro s3 ⟨ll, ls, hl0, hl3, hls, S3⟩
      have ml : (ll, SO.list (ls.map lvV)) ∈ objs σ ++ ((L, .ns [(k "count", .int c v), (k "begin", .int p u), (k "size", .int n t), (k "cup", .ref σ.A.cup), (k "places", .ref pl), (k "lengths", .ref ll)]) :: (ll, .list (ls.map lvV)) :: (pl, .list [vi p, vi i]) :: R) := mR (.tail _ (.head _))
      refine wpAny_execs_cons (wpAny_Return_some (Tuple_ (wpAny_items_cons (Subscript_ (nmL S3 (mR (.head _)) rfl ?_)))))
      refine callN (nmG (v := .ref 585) S3 (by kernel_rfl) (df2 S3 (by kernel_rfl) (nmL S3 (mR (.head _)) rfl (wpAny_Constant_int ⟨⟨_, S3.toks _⟩, ?_⟩))))
      refine roll_spec (S3.toks _) ((hA.down _).le (by decide)) (by decide) ⟨t1, t2, by lia⟩ fun j tj sc s4 j0 j2 hsc S4 => ?_
      have hx : ([vi p, vi i] : List Value)[j.toNat]? = some (vi (if j = 0 then (p : Int) else i)) := by
        have : j = 0 ∨ j = 1 := by lia
        rcases this with rfl | rfl <;> rfl
      refine itL S4 (mR (.tail _ (.tail _ (.head _)))) j0 hx (by simp) fun v5 s5 hv5 S5 => ?_
      obtain ⟨t5, rfl⟩ := er_int hv5
      refine wpAny_items_cons (Subscript_ (nmL S5 (mR (.head _)) rfl ?_))
      refine callN (nmG (v := .ref 585) S5 (by kernel_rfl) (df2 S5 (by kernel_rfl) (nmL S5 (mR (.head _)) rfl (callN (nmB (v := .builtin "len") S5 (by kernel_rfl) (by kernel_rfl) (bi1 (nmL S5 (mR (.head _)) rfl ?_)))))))
      refine lenL S5 (mR (.tail _ (.head _))) (fun t6 s6 S6 => ⟨⟨_, S6⟩, ?_⟩) (by rw [List.length_map]; lia)
      rw [List.length_map]
      refine roll_spec S6 ((hA.down _).le (by decide)) (by lia) ⟨hsc, by show 0 ≤ σ.rolled + 1; lia, by show σ.rolled + 1 + 1 ≤ _; lia⟩ (fun q tq sc' s7 q0 q1 hsc' S7 => ?_) rfl
      have hq : q.toNat < ls.length := by lia
      have hx2 : (ls.map lvV)[q.toNat]? = some (lvV ls[q.toNat]) := by rw [List.getElem?_map, List.getElem?_eq_getElem hq]; rfl
      refine itL S7 (mR (.tail _ (.head _))) q0 hx2 (by rw [List.length_map]; lia) fun v8 s8 hv8 S8 => ?_
      refine wpAny_items_nil (newT S8 fun tp s9 S9 => ?_)
      have e9 : ([.int (if j = 0 then (p : Int) else i) t5, v8] : List Value).map er = [vi (if j = 0 then (p : Int) else i), lvV ls[q.toNat]] := by rw [List.map_cons, List.map_cons, List.map_nil, hv8]; rfl
      rw [e9] at S9
      refine h _ _ tp sc' (σ.rolled + 1 + 1) _ ?_ ?_ (hls _ (List.getElem_mem hq)) hsc' (by lia) (by lia) (S9.inn.sub (.append_left (.cons_cons _ (.cons _ (.cons _ (.cons _ (.refl _))))) _))
      · split
        · left; lia
        · exact hi
      · split
        · unfold plc; rw [if_neg (by lia)]; lia
        · exact hp
end
end Mine
end
section
open PySem PySem.W PySem.Calls PyProof.Rows
set_option maxRecDepth 100000
namespace Mine
noncomputable def Dm.spliced (σ : Dm) (b : Bool) (ds : List DV) (cs : List Sc) (p c : Nat) : Dm := ((σ.made ds cs).setIt b (spl (σ.it b) (newIts σ.scs.length cs) p c)).drops (tak (σ.it b) p c)
section
variable {w : World} {s₀ s : Shared} {W W' X R : Led} {A : Around} {E : Value → Shared → Prop} {Q : Value → Shared → Prop} {env : Env} {σ : Dm} {b : Bool}
theorem df5 {f : Value} {first : List Value} {pos : Pos} {a b c d e : Expr} (S : Sp w s₀ W s) (hk : keepIn (K w.params) f = true)
    (h : wpAny (model pg w) A (eval a env) (fun v s₁ => wpAny (model pg w) A (eval b env) (fun u s₂ => wpAny (model pg w) A (eval c env) (fun t s₃ => wpAny (model pg w) A (eval d env) (fun r s₄ => wpAny (model pg w) A (eval e env) (fun q s₅ =>
      ArgZ w s₀ A f (first ++ [v, u, t, r, q]) Q E s₅) E s₄) E s₃) E s₂) E s₁) E s)
    (hp : true = List.all [a, b, c, d, e] kdsPlain := by rfl)
    :
    wpAny (model pg w) A (callWith pos f first (backTo pos (starEach [a, b, c, d, e] env)) []) Q E s :=
  argsN S hk (wpAny_items_cons (wpAny_mono h (fun _ _ z => wpAny_items_cons (wpAny_mono z (fun _ _ z => wpAny_items_cons (wpAny_mono z (fun _ _ z => wpAny_items_cons (wpAny_mono z (fun _ _ z => wpAny_items_cons (wpAny_mono z (fun _ _ z => wpAny_items_nil z) fun _ _ z => z) (nst_eq (nst_tl (nst_tl (nst_tl (nst_tl hp)))))) fun _ _ z => z) (nst_eq (nst_tl (nst_tl (nst_tl hp))))) fun _ _ z => z) (nst_eq (nst_tl (nst_tl hp)))) fun _ _ z => z) (nst_eq (nst_tl hp))) fun _ _ z => z) (nst_eq hp)) hp
theorem df4 {f : Value} {first : List Value} {pos : Pos} {a b c d : Expr} (S : Sp w s₀ W s) (hk : keepIn (K w.params) f = true)
    (h : wpAny (model pg w) A (eval a env) (fun v s₁ => wpAny (model pg w) A (eval b env) (fun u s₂ => wpAny (model pg w) A (eval c env) (fun t s₃ => wpAny (model pg w) A (eval d env) (fun r s₄ =>
      ArgZ w s₀ A f (first ++ [v, u, t, r]) Q E s₄) E s₃) E s₂) E s₁) E s)
    (hp : true = List.all [a, b, c, d] kdsPlain := by rfl)
    :
    wpAny (model pg w) A (callWith pos f first (backTo pos (starEach [a, b, c, d] env)) []) Q E s :=
  argsN S hk (wpAny_items_cons (wpAny_mono h (fun _ _ z => wpAny_items_cons (wpAny_mono z (fun _ _ z => wpAny_items_cons (wpAny_mono z (fun _ _ z => wpAny_items_cons (wpAny_mono z (fun _ _ z => wpAny_items_nil z) fun _ _ z => z) (nst_eq (nst_tl (nst_tl (nst_tl hp))))) fun _ _ z => z) (nst_eq (nst_tl (nst_tl hp)))) fun _ _ z => z) (nst_eq (nst_tl hp))) fun _ _ z => z) (nst_eq hp)) hp
theorem spliced_f {ds : List DV} {cs : List Sc} {p c : Nat} : (σ.spliced b ds cs p c).A = σ.A ∧ (σ.spliced b ds cs p c).refs = σ.refs := by
  obtain ⟨x, y, e⟩ := made_eq σ ds cs
  unfold Dm.spliced
  refine ⟨drops_A.1.trans (setIt_it.2.2.trans (by rw [e])), drops_A.2.1.trans ?_⟩
  rw [e]; cases b <;> rfl
theorem lsplice_ok {A₀ : Ad} {ds : List DV} {vl : Addr} {p c : Nat} {t u : Tok} (S : Sp w s₀ (objs σ ++ R) s) (hA : Rm A 12) (ht : σ.tape 2) (hl : (vl, .list (ds.map DV.val)) ∈ R) (ok : ∀ x ∈ ds, x.ok σ) (hpc : p + c ≤ (σ.it b).length)
    (hz : (σ.it b).length - c + ds.length ≤ 7) (hz1 : σ.zero.length + (σ.it b).length ≤ 1000) (hz2 : (σ.it b).length ≤ 900) (hz3 : ds.length ≤ 900) (ho : σ.live (σ.it b)) (hn : (ixs (σ.it b)).Nodup) (hok : ∀ o ∈ σ.it b, (σ.vl o).ok σ)
    (h : ∀ cs sc r (ts : List Tv) l s', newOk σ.last ds cs → sc.length ≤ 60 → σ.rolled ≤ r → r ≤ σ.rolled + 2 → ts.map Tv.t = (tak (σ.it b) p c).map (fun o => (σ.vl o).told) →
      Sp w s₀ (objs ((σ.rl sc r).spliced b ds cs p c) ++ ((l, .list (ts.map Tv.val)) :: ((ts.flatMap Tv.objs).reverse ++ R))) s' → Q (.ref l) s') (eA₀ : σ.A = A₀ := by rfl) :
    wpAny (model pg w) A (call (.ref 616) [.ref A₀.cup, .ref (A₀.ar b), .int p t, .int c u, .ref vl]) Q E s := by
  subst eA₀
  refine callS [(k "values", .ref vl), (k "count", .int c u), (k "begin", .int p t), (k "array", .ref (σ.A.ar b)), (k "cup", .ref σ.A.cup)] S hA.lt rfl (by kernel_rfl) (BindsTo.of_eq rfl) (fun L s1 S1 => ?_)
  refine wpAny_execs_cons (Assign_Tuple (callN (nmG (v := .ref 609) S1 (by kernel_rfl) (df4 S1 (by kernel_rfl) (nmL S1 (mR (.head _)) rfl ?_)))))
  refine callN (nmB (v := .builtin "len") S1 (by kernel_rfl) (by kernel_rfl) (bi1 (Attribute_any_ (nmL S1 (mR (.head _)) rfl (getItems S1 fun s2 S2 => ?_)))))
  refine lenL S2 arL (fun t3 s3 S3 => nmL S3 (mR (.head _)) rfl (nmL S3 (mR (.head _)) rfl ⟨⟨_, S3⟩, ?_⟩)) (by rw [List.length_map]; lia)
  rw [List.length_map]
  refine form_spec S3 ((hA.down _).le (by decide)) ht hpc hz2 fun i lv tp sc r s4 hi hp hc hsc r1 r2 S4 => ?_
  have S4 := S4.swap
  refine asT2 S4 hA.2.2 (mR (.tail _ (.head _))) fun pv lvv s5 hpv hlv S5 => ?_
  obtain ⟨t5, rfl⟩ := er_int hpv
  refine wpAny_execs_cons (wpAny_Try_except (wpAny_execs_cons (wpAny_Return_some (callN (nmG (v := .ref 602) S5 (by kernel_rfl) (df1 S5 (by kernel_rfl) (callN (nmG (v := .ref 341) S5 (by kernel_rfl) (df5 S5 (by kernel_rfl) ?_)))))))))
  refine Subscript_ (nmL S5 (mR (.head _)) rfl (wpAny_Constant_str (gdr (S5.toks _) (cupD (σ := σ.rl sc r)) rfl fun s6 S6 => ?_)))
  refine nmL S6 (mR (.head _)) rfl (nmL S6 (mR (.head _)) rfl (nmL S6 (mR (.head _)) rfl (nmL S6 (mR (.head _)) rfl ⟨⟨_, S6⟩, ?_⟩)))
  have eit : (σ.rl sc r).it b = σ.it b := by cases b <;> rfl
  have evl : ∀ o, (σ.rl sc r).vl o = σ.vl o := fun o => by cases o <;> rfl
  refine splice_ok (σ := σ.rl sc r) (b := b) (l := lv) S6 ((hA.down _).le (by decide)) (.tail _ (.tail _ hl)) ok (by rw [eit]; exact hi) (by rw [eit]; exact hp) (by rw [eit]; exact hc) (by rw [eit]; exact hpc) hlv (by rw [eit]; exact hz) (by rw [eit]; exact hz1) (by rw [eit]; exact hz2) hz3 (by rw [eit]; exact ho) (by rw [eit]; exact hn) fun cs l s7 hn' S7 => ?_
  change Sp w s₀ (objs ((σ.rl sc r).spliced b ds cs p c) ++ _) s7 at S7
  rw [eit] at S7
  have e1 : (tak (σ.it b) p c).map (fun o => ((σ.rl sc r).vl o).val) = ((tak (σ.it b) p c).map fun o => σ.vl o).map DV.val := by rw [List.map_map]; exact List.map_congr_left fun o _ => by rw [evl]; rfl
  rw [e1] at S7
  have lt := tak_sub (xs := σ.it b) (p := p) (c := c)
  refine ⟨⟨_, S7⟩, told_spec S7 ((hA.down _).le (by decide)) (.head _) (fun x hx => ?_) (by rw [List.length_map]; exact Nat.le_trans lt.length_le hz2) fun ts l2 s8 hts S8 => ?_⟩
  · obtain ⟨o, ho', rfl⟩ := List.mem_map.mp hx
    exact ok_of (hok o (lt.subset ho')) spliced_f.2
  · rw [List.map_map] at hts
    exact h cs sc r ts l2 s8 hn' hsc r1 r2 hts (S8.sub (.append_left (.cons_cons _ (.append_left (.cons _ (.cons _ (.cons _ (.refl _)))) _)) _))
end
end Mine
end
section
open PySem PySem.W PySem.Calls PyProof.Rows
set_option maxRecDepth 100000
namespace Mine
noncomputable def isJ (j : Bool) (x : DV) : Bool := match x with
  | .rf f => f.j == j
  | _ => false
noncomputable def cntJ (j : Bool) (cs : List Sc) : Nat := cs.countP fun c => !c.freed && isJ j c.val
structure WF (σ : Dm) : Prop where
  len : ∀ b, (σ.it b).length ≤ 7
  at1 : ∀ b t, some t ∈ σ.it b → ∃ c, σ.At t c ∧ c.cnt = 1
  at0 : ∀ t ∈ σ.zero, ∃ c, σ.At t c ∧ c.cnt = 0
  perm : (ixs (σ.it false) ++ ixs (σ.it true) ++ σ.zero.map It.i).Perm (List.range σ.scs.length)
  sc : ∀ (i : Nat) (c : Sc), σ.scs[i]? = some c → c.num = (i : Int) + 5 ∧ c.freed = false ∧ c.wk = c.wl ∧ c.val.ok σ
  last : σ.last = σ.scs.length + 4
  cj : ∀ j, σ.cj j = 1 + cntJ j σ.scs
  script : σ.script.length ≤ 60
noncomputable def Dm.tv (σ : Dm) (b : Bool) : List TV := (σ.it b).map fun o => (σ.vl o).told
noncomputable def Dm.chg (σ : Dm) (b : Bool) (ds : List DV) (cs : List Sc) (its ms : List (Option It)) : Dm := ((σ.made ds cs).setIt b its).drops ms
section
variable {σ : Dm} {b : Bool}
theorem WF.live (h : WF σ) (b : Bool) : σ.live (σ.it b) := h.at1 b
theorem WF.has (h : WF σ) (b : Bool) : ∀ o ∈ σ.it b, σ.has o := live_has (h.live b)
theorem WF.nodup (h : WF σ) : (ixs (σ.it false) ++ ixs (σ.it true) ++ σ.zero.map It.i).Nodup := h.perm.nodup_iff.mpr List.nodup_range
theorem WF.nodupB (h : WF σ) (b : Bool) : (ixs (σ.it b)).Nodup := by
  have := (List.nodup_append.mp h.nodup).1
  cases b
  · exact (List.nodup_append.mp this).1
  · exact (List.nodup_append.mp this).2.1
theorem WF.okv (h : WF σ) (b : Bool) : ∀ o ∈ σ.it b, (σ.vl o).ok σ := fun o ho => by
  cases o with
  | none => trivial
  | some t =>
    obtain ⟨c, hc, _⟩ := h.at1 b t ho
    rw [vl_at hc]
    exact (h.sc _ _ hc.1).2.2.2
theorem WF.zero (h : WF σ) : σ.zero.length ≤ σ.scs.length := by
  have := h.perm.length_eq
  simp only [List.length_append, List.length_map, List.length_range] at this
  lia
theorem mem_ixs {ms : List (Option It)} {i : Nat} : i ∈ ixs ms ↔ ∃ t, some t ∈ ms ∧ t.i = i := by
  unfold ixs
  rw [List.mem_filterMap]
  constructor
  · rintro ⟨o, ho, e⟩
    cases o with
    | none => cases e
    | some t => exact ⟨t, ho, Option.some.inj e⟩
  · rintro ⟨t, ht, e⟩; exact ⟨some t, ht, by rw [← e]; rfl⟩
theorem newIts_ixs : ∀ {n : Nat} {cs : List Sc}, ixs (newIts n cs) = (List.range cs.length).map (n + ·)
  | _, [] => rfl
  | n, c :: cs => by
    show n :: ixs (newIts (n + 1) cs) = _
    rw [newIts_ixs, List.length_cons, List.range_succ_eq_map, List.map_cons, List.map_map]
    congr 1
    exact List.map_congr_left fun k _ => by show n + 1 + k = n + (k + 1); lia
theorem newIts_at {pre : List Sc} : ∀ {cs : List Sc} {n : Nat} {σ' : Dm}, pre.length = n → σ'.scs = pre ++ cs → ∀ t, some t ∈ newIts n cs → ∃ c ∈ cs, σ'.At t c := by
  intro cs
  induction cs generalizing pre with
  | nil => intro n σ' _ _ t ht; cases ht
  | cons c cs ih =>
    intro n σ' hn hs t ht
    rcases List.mem_cons.mp ht with e | ht
    · obtain rfl := Option.some.inj e
      refine ⟨c, .head _, ?_, rfl⟩
      show σ'.scs[n]? = some c
      rw [hs, ← hn]; simp
    · obtain ⟨c', hc', h⟩ := ih (pre := pre ++ [c]) (n := n + 1) (σ' := σ') (by simp [hn]) (by rw [hs]; simp) t ht
      exact ⟨c', .tail _ hc', h⟩
theorem newIts_vl {pre : List Sc} : ∀ {cs : List Sc} {n : Nat} {σ' : Dm}, pre.length = n → σ'.scs = pre ++ cs → (newIts n cs).map σ'.vl = cs.map Sc.val := by
  intro cs
  induction cs generalizing pre with
  | nil => intros; rfl
  | cons c cs ih =>
    intro n σ' hn hs
    rw [newIts, List.map_cons, List.map_cons, ih (pre := pre ++ [c]) (n := n + 1) (σ' := σ') (by simp [hn]) (by rw [hs]; simp)]
    congr 1
    have : σ'.At ⟨n, c.a⟩ c := ⟨by show σ'.scs[n]? = some c; rw [hs, ← hn]; simp, rfl⟩
    exact vl_at this
theorem newOk_val : ∀ {n : Int} {xs : List DV} {cs : List Sc}, newOk n xs cs → cs.map Sc.val = xs
  | _, [], [], _ => rfl
  | _, x :: xs, c :: cs, h => by rw [List.map_cons, newOk_val h.2.2.2.2.2, h.2.2.2.1]
  | _, [], _ :: _, h => h.elim
  | _, _ :: _, [], h => h.elim
theorem newOk_sc : ∀ {n : Int} {xs : List DV} {cs : List Sc}, newOk n xs cs → ∀ (i : Nat) (c : Sc), cs[i]? = some c → c.num = n + 1 + (i : Int) ∧ c.cnt = 1 ∧ c.freed = false ∧ c.wk = c.wl ∧ c.val ∈ xs
  | _, [], [], _, i, c, h => by simp at h
  | n, x :: xs, d :: cs, h, 0, c, e => by
    cases e
    exact ⟨by rw [h.1]; lia, h.2.1, h.2.2.1, h.2.2.2.2.1, by rw [h.2.2.2.1]; exact .head _⟩
  | n, x :: xs, d :: cs, h, i + 1, c, e => by
    obtain ⟨a, b, c', d', e'⟩ := newOk_sc h.2.2.2.2.2 i c (by simpa using e)
    exact ⟨by rw [a]; push_cast; lia, b, c', d', .tail _ e'⟩
  | _, [], _ :: _, h, _, _, _ => h.elim
  | _, _ :: _, [], h, _, _, _ => h.elim
theorem drops_it {ms : List (Option It)} (b' : Bool) : (σ.drops ms).it b' = σ.it b' := by
  induction ms generalizing σ with
  | nil => rfl
  | cons m ms ih =>
    refine (ih (σ := σ.drop1 m)).trans ?_
    cases m <;> cases b' <;> rfl
theorem drops_z {ms : List (Option It)} : (σ.drops ms).zero = σ.zero ++ ms.filterMap id := by
  induction ms generalizing σ with
  | nil => simp [Dm.drops]
  | cons m ms ih =>
    show ((σ.drop1 m).drops ms).zero = _
    rw [ih]
    cases m with
    | none => rfl
    | some t => show (σ.zero ++ [t]) ++ _ = _; simp
theorem drops_len {ms : List (Option It)} : (σ.drops ms).scs.length = σ.scs.length := by
  induction ms generalizing σ with
  | nil => rfl
  | cons m ms ih =>
    refine (ih (σ := σ.drop1 m)).trans ?_
    cases m with
    | none => rfl
    | some t => show (σ.scs.modify t.i (Sc.setc 0)).length = _; simp
theorem drops_c {ms : List (Option It)} : (σ.drops ms).c0 = σ.c0 ∧ (σ.drops ms).c1 = σ.c1 ∧ (σ.drops ms).script = σ.script ∧ (σ.drops ms).rolled = σ.rolled := by
  induction ms generalizing σ with
  | nil => exact ⟨rfl, rfl, rfl, rfl⟩
  | cons m ms ih =>
    obtain ⟨a, b, c, d⟩ := ih (σ := σ.drop1 m)
    refine ⟨a.trans ?_, b.trans ?_, c.trans ?_, d.trans ?_⟩ <;> cases m <;> rfl
theorem drops_sc {ms : List (Option It)} {i : Nat} {c : Sc} (h : (σ.drops ms).scs[i]? = some c) : ∃ c', σ.scs[i]? = some c' ∧ c.num = c'.num ∧ c.freed = c'.freed ∧ c.wk = c'.wk ∧ c.wl = c'.wl ∧ c.val = c'.val ∧ c.a = c'.a := by
  induction ms generalizing σ with
  | nil => exact ⟨c, h, rfl, rfl, rfl, rfl, rfl, rfl⟩
  | cons m ms ih =>
    obtain ⟨c', h', r⟩ := ih (σ := σ.drop1 m) h
    cases m with
    | none => exact ⟨c', h', r⟩
    | some t =>
      have h2 : (σ.scs.modify t.i (Sc.setc 0))[i]? = some c' := h'
      rw [List.getElem?_modify] at h2
      cases q : σ.scs[i]? with
      | none => rw [q] at h2; cases h2
      | some d =>
        rw [q] at h2
        simp only [Option.map_eq_map, Option.map_some, Option.some.injEq] at h2
        refine ⟨d, rfl, ?_⟩
        split at h2 <;> subst h2 <;> exact r
end
end Mine
end
section
open PySem PySem.W PySem.Calls PyProof.Rows
set_option maxRecDepth 100000
namespace Mine
section
variable {σ : Dm} {b : Bool}
theorem countP_modify {α : Type} {p : α → Bool} {f : α → α} (hf : ∀ x, p (f x) = p x) : ∀ (l : List α) (i : Nat), (l.modify i f).countP p = l.countP p
  | [], _ => by simp
  | x :: l, 0 => by
    show (f x :: l).countP p = _
    rw [List.countP_cons, List.countP_cons, hf]
  | x :: l, i + 1 => by
    rw [List.modify_succ_cons, List.countP_cons, List.countP_cons, countP_modify hf l i]
theorem drops_cnt {ms : List (Option It)} {j : Bool} : cntJ j (σ.drops ms).scs = cntJ j σ.scs := by
  induction ms generalizing σ with
  | nil => rfl
  | cons m ms ih =>
    refine (ih (σ := σ.drop1 m)).trans ?_
    cases m with
    | none => rfl
    | some t => exact countP_modify (p := fun c : Sc => !c.freed && isJ j c.val) (f := Sc.setc 0) (fun _ => rfl) σ.scs t.i
theorem take_cj {x : DV} {j : Bool} : (σ.take x).cj j = σ.cj j + (if isJ j x then 1 else 0) := by
  cases x with
  | rf f =>
    obtain ⟨r, rd, q⟩ := f
    cases j <;> cases q <;> simp [Dm.take, Dm.addc, Dm.cj, isJ]
  | _ => simp [Dm.take, isJ]
theorem takes_cj {ds : List DV} {j : Bool} : (σ.takes ds).cj j = σ.cj j + ds.countP (isJ j) := by
  induction ds generalizing σ with
  | nil => simp [Dm.takes]
  | cons d ds ih =>
    show ((σ.take d).takes ds).cj j = _
    rw [ih, take_cj, List.countP_cons]
    split <;> simp <;> lia
theorem newOk_cnt {j : Bool} : ∀ {n : Int} {xs : List DV} {cs : List Sc}, newOk n xs cs → cntJ j cs = xs.countP (isJ j)
  | _, [], [], _ => rfl
  | _, x :: xs, c :: cs, h => by
    unfold cntJ
    rw [List.countP_cons, List.countP_cons]
    have := newOk_cnt (j := j) h.2.2.2.2.2
    unfold cntJ at this
    rw [this, h.2.2.1, h.2.2.2.1]; rfl
  | _, [], _ :: _, h => h.elim
  | _, _ :: _, [], h => h.elim
theorem ixs_filter {ms : List (Option It)} : (ms.filterMap id).map It.i = ixs ms := by
  unfold ixs
  rw [List.map_filterMap]
  rfl
theorem drops_at0 {t : It} {c : Sc} : ∀ {ms : List (Option It)}, (ixs ms).Nodup → some t ∈ ms → σ.At t c → (σ.drops ms).At t (c.setc 0) := by
  intro ms
  induction ms generalizing σ with
  | nil => intro _ h; cases h
  | cons m ms ih =>
    intro hn hm h
    cases m with
    | none =>
      rcases List.mem_cons.mp hm with e | hm
      · cases e
      · exact ih hn hm h
    | some u =>
      have hn' : (u.i :: ixs ms).Nodup := hn
      rw [List.nodup_cons] at hn'
      rcases List.mem_cons.mp hm with e | hm
      · obtain rfl := Option.some.inj e
        have h1 : (σ.dropd t).At t (c.setc 0) := by
          rw [dropd_eq h]
          exact ⟨by show (σ.scs.set t.i (c.setc 0))[t.i]? = _; rw [List.getElem?_set_self (List.getElem?_eq_some_iff.mp h.1).1], h.2⟩
        exact drops_at (σ := σ.dropd t) hn'.1 h1
      · have hne : t.i ≠ u.i := fun e => hn'.1 (e ▸ mem_ixs.mpr ⟨t, hm, rfl⟩)
        exact ih (σ := σ.dropd u) hn'.2 hm (dropd_at hne h)
theorem made_setIt_at {its : List (Option It)} {ds : List DV} {cs : List Sc} {t : It} {c : Sc} (h : σ.At t c) : ((σ.made ds cs).setIt b its).At t c := setIt_at (made_at h)
theorem chg_f (ds : List DV) (cs : List Sc) (its ms : List (Option It)) : (σ.chg b ds cs its ms).A = σ.A ∧ (σ.chg b ds cs its ms).refs = σ.refs ∧ (σ.chg b ds cs its ms).zero = σ.zero ++ ms.filterMap id ∧ (σ.chg b ds cs its ms).scs.length = σ.scs.length + cs.length ∧
    (σ.chg b ds cs its ms).script = σ.script ∧ (σ.chg b ds cs its ms).rolled = σ.rolled ∧ (σ.chg b ds cs its ms).last = σ.last + cs.length ∧ (σ.chg b ds cs its ms).it b = its ∧ (σ.chg b ds cs its ms).it (!b) = σ.it (!b) := by
  obtain ⟨x, y, e⟩ := made_eq σ ds cs
  unfold Dm.chg
  refine ⟨drops_A.1.trans ?_, drops_A.2.1.trans ?_, drops_z.trans ?_, drops_len.trans ?_, drops_c.2.2.1.trans ?_, drops_c.2.2.2.trans ?_, drops_A.2.2.2.trans ?_, (drops_it _).trans ?_, (drops_it _).trans ?_⟩
  all_goals rw [e]
  all_goals cases b <;> first | rfl | (show (σ.scs ++ cs).length = _; rw [List.length_append])
theorem WF_chg {ds : List DV} {cs : List Sc} {its ms : List (Option It)} (h : WF σ) (hn : newOk σ.last ds cs) (ok : ∀ x ∈ ds, x.ok σ) (hlen : its.length ≤ 7)
    (hp : (ixs its ++ ixs ms).Perm (ixs (σ.it b) ++ ixs (newIts σ.scs.length cs))) (hmem : ∀ t, some t ∈ its ++ ms → some t ∈ σ.it b ++ newIts σ.scs.length cs) : WF (σ.chg b ds cs its ms) := by
  obtain ⟨fA, fr, fz, fl, fs, fro, fla, fi, fo⟩ := chg_f (σ := σ) (b := b) ds cs its ms
  obtain ⟨x, y, em⟩ := made_eq σ ds cs
  have hscs : ((σ.made ds cs).setIt b its).scs = σ.scs ++ cs := by rw [em]; cases b <;> rfl
  -- the indices all distinct
  have hall : (ixs (σ.it b) ++ ixs (newIts σ.scs.length cs) ++ ixs (σ.it (!b)) ++ σ.zero.map It.i).Nodup ∧ (ixs (σ.it b) ++ ixs (newIts σ.scs.length cs) ++ ixs (σ.it (!b)) ++ σ.zero.map It.i).Perm (List.range (σ.scs.length + cs.length)) := by
    have p1 := h.perm
    have : (ixs (σ.it b) ++ ixs (newIts σ.scs.length cs) ++ ixs (σ.it (!b)) ++ σ.zero.map It.i).Perm (List.range (σ.scs.length + cs.length)) := by
      rw [List.range_add, ← newIts_ixs]
      rw [List.perm_iff_count] at p1 ⊢
      intro a
      have := p1 a
      cases b <;> simp only [List.count_append, Bool.not_false, Bool.not_true] at this ⊢ <;> lia
    exact ⟨this.nodup_iff.mpr List.nodup_range, this⟩
  have hnd : (ixs its ++ ixs ms ++ (ixs (σ.it (!b)) ++ σ.zero.map It.i)).Nodup := by
    refine (List.Perm.nodup_iff (hp.append_right _)).mpr ?_
    rw [List.append_assoc] at hall
    exact hall.1
  have hnm : (ixs ms).Nodup := (List.nodup_append.mp (List.nodup_append.mp hnd).1).2.1
  -- what an item of the new list or of the dropped is
  have hat : ∀ t, some t ∈ its ++ ms → ∃ c, ((σ.made ds cs).setIt b its).At t c ∧ c.cnt = 1 := fun t ht => by
    rcases List.mem_append.mp (hmem t ht) with h1 | h1
    · obtain ⟨c, hc, h2⟩ := h.at1 b t h1
      exact ⟨c, made_setIt_at hc, h2⟩
    · obtain ⟨c, hc, h2⟩ := newIts_at (σ' := (σ.made ds cs).setIt b its) rfl hscs t h1
      obtain ⟨i, hi⟩ := List.getElem?_of_mem hc
      exact ⟨c, h2, (newOk_sc hn i c hi).2.1⟩
  have d1 : ∀ t, some t ∈ its → t.i ∉ ixs ms := fun t ht hm => (List.nodup_append.mp (List.nodup_append.mp hnd).1).2.2 _ (mem_ixs.mpr ⟨t, ht, rfl⟩) _ hm rfl
  have d2 : ∀ i, i ∈ ixs (σ.it (!b)) ++ σ.zero.map It.i → i ∉ ixs ms := fun i hi hm => (List.nodup_append.mp hnd).2.2 _ (List.mem_append_right _ hm) _ hi rfl
  have fB : ∀ b' t, some t ∈ (σ.chg b ds cs its ms).it b' → ∃ c, (σ.chg b ds cs its ms).At t c ∧ c.cnt = 1 := fun b' t ht => by
    by_cases q : b' = b
    · subst q
      rw [fi] at ht
      obtain ⟨c, hc, h1⟩ := hat t (List.mem_append_left _ ht)
      exact ⟨c, drops_at (d1 t ht) hc, h1⟩
    · have e : b' = !b := by cases b <;> cases b' <;> simp_all
      subst e
      rw [fo] at ht
      obtain ⟨c, hc, h1⟩ := h.at1 (!b) t ht
      exact ⟨c, drops_at (d2 _ (List.mem_append_left _ (mem_ixs.mpr ⟨t, ht, rfl⟩))) (made_setIt_at hc), h1⟩
  refine ⟨fun b' => ?_, fB, fun t ht => ?_, ?_, fun i c hi => ?_, ?_, fun j => ?_, by rw [fs]; exact h.script⟩
  · by_cases q : b' = b
    · subst q; rw [fi]; exact hlen
    · have e : b' = !b := by cases b <;> cases b' <;> simp_all
      subst e; rw [fo]; exact h.len _
  · rw [fz] at ht
    rcases List.mem_append.mp ht with ht | ht
    · obtain ⟨c, hc, h0⟩ := h.at0 t ht
      exact ⟨c, drops_at (d2 _ (List.mem_append_right _ (List.mem_map_of_mem ht))) (made_setIt_at hc), h0⟩
    · have ht : some t ∈ ms := by
        obtain ⟨o, ho, e⟩ := List.mem_filterMap.mp ht
        have : o = some t := e
        exact this ▸ ho
      obtain ⟨c, hc, _⟩ := hat t (List.mem_append_right _ ht)
      exact ⟨_, drops_at0 hnm ht hc, rfl⟩
  · rw [fz, fl, List.map_append, ixs_filter]
    refine List.Perm.trans ?_ hall.2
    rw [List.perm_iff_count] at hp ⊢
    intro a
    have h1 := hp a
    cases b
    · have e1 : (σ.chg false ds cs its ms).it true = σ.it true := fo
      rw [fi, e1]
      simp only [List.count_append, Bool.not_false] at h1 ⊢
      lia
    · have e1 : (σ.chg true ds cs its ms).it false = σ.it false := fo
      rw [fi, e1]
      simp only [List.count_append, Bool.not_true] at h1 ⊢
      lia
  · obtain ⟨c', h1, e1, e2, e3, e4, e5, e6⟩ := drops_sc hi
    rw [hscs] at h1
    rw [e1, e2, e3, e4, e5]
    by_cases q : i < σ.scs.length
    · rw [List.getElem?_append_left q] at h1
      obtain ⟨a1, a2, a3, a4⟩ := h.sc i c' h1
      exact ⟨a1, a2, a3, ok_of a4 fr⟩
    · rw [List.getElem?_append_right (by lia)] at h1
      obtain ⟨a1, _, a2, a3, a4⟩ := newOk_sc hn _ c' h1
      refine ⟨by rw [a1, h.last]; lia, a2, a3, ok_of (ok _ a4) fr⟩
  · rw [fla, fl, h.last]; push_cast; lia
  · have e1 : (σ.chg b ds cs its ms).cj j = (σ.takes ds).cj j := by
      unfold Dm.chg Dm.cj
      rw [drops_c.1, drops_c.2.1]
      cases b <;> rfl
    rw [e1, takes_cj, h.cj]
    unfold Dm.chg
    rw [drops_cnt, hscs]
    have : cntJ j (σ.scs ++ cs) = cntJ j σ.scs + cntJ j cs := by unfold cntJ; rw [List.countP_append]
    rw [this, newOk_cnt hn]
    push_cast; lia
end
end Mine
end
section
open PySem PySem.W PySem.Calls PyProof.Rows
set_option maxRecDepth 100000
namespace Mine
section
variable {σ : Dm} {b : Bool}
theorem chg_vl {ds : List DV} {cs : List Sc} {its ms : List (Option It)} {o : Option It} (h : σ.has o) : (σ.chg b ds cs its ms).vl o = σ.vl o := by
  unfold Dm.chg; rw [drops_vl, setIt_vl, made_vl h]
theorem chg_vl_new {ds : List DV} {cs : List Sc} {its ms : List (Option It)} (hn : newOk σ.last ds cs) : (newIts σ.scs.length cs).map (σ.chg b ds cs its ms).vl = ds := by
  have hscs : ((σ.made ds cs).setIt b its).scs = σ.scs ++ cs := by obtain ⟨x, y, em⟩ := made_eq σ ds cs; rw [em]; cases b <;> rfl
  have e : (σ.chg b ds cs its ms).vl = ((σ.made ds cs).setIt b its).vl := by funext o; unfold Dm.chg; rw [drops_vl]
  rw [e, newIts_vl rfl hscs, newOk_val hn]
theorem tv_other {ds : List DV} {cs : List Sc} {its ms : List (Option It)} (h : WF σ) : (σ.chg b ds cs its ms).tv (!b) = σ.tv (!b) := by
  unfold Dm.tv
  rw [(chg_f ds cs its ms).2.2.2.2.2.2.2.2]
  exact List.map_congr_left fun o ho => by rw [chg_vl (h.has _ o ho)]
theorem spliced_chg {ds : List DV} {cs : List Sc} {p c : Nat} : σ.spliced b ds cs p c = σ.chg b ds cs (spl (σ.it b) (newIts σ.scs.length cs) p c) (tak (σ.it b) p c) := rfl
theorem spl_cut {xs : List (Option It)} {p c : Nat} : xs = xs.take p ++ tak xs p c ++ xs.drop (p + c) := by
  unfold tak
  rw [List.append_assoc, ← List.drop_drop, List.take_append_drop, List.take_append_drop]
theorem spl_len {xs new : List (Option It)} {p c : Nat} (h : p + c ≤ xs.length) : (spl xs new p c).length = xs.length - c + new.length := by
  unfold spl
  simp only [List.length_append, List.length_take, List.length_drop]
  lia
theorem WF_spliced {ds : List DV} {cs : List Sc} {p c : Nat} (h : WF σ) (hn : newOk σ.last ds cs) (ok : ∀ x ∈ ds, x.ok σ) (hpc : p + c ≤ (σ.it b).length) (hz : (σ.it b).length - c + ds.length ≤ 7) : WF (σ.spliced b ds cs p c) := by
  refine WF_chg h hn ok (by rw [spl_len hpc, newIts_len, newOk_len hn]; exact hz) ?_ fun t ht => ?_
  · rw [List.perm_iff_count]
    intro a
    have e : ixs (σ.it b) = ixs ((σ.it b).take p) ++ ixs (tak (σ.it b) p c) ++ ixs ((σ.it b).drop (p + c)) := by rw [← ixs_append, ← ixs_append, ← spl_cut]
    rw [e]
    unfold spl
    simp only [ixs_append, List.count_append]
    lia
  · rcases List.mem_append.mp ht with ht | ht
    · unfold spl at ht
      rcases List.mem_append.mp ht with ht | ht
      · rcases List.mem_append.mp ht with ht | ht
        · exact List.mem_append_left _ (List.mem_of_mem_take ht)
        · exact List.mem_append_right _ ht
      · exact List.mem_append_left _ (List.mem_of_mem_drop ht)
    · exact List.mem_append_left _ (tak_sub.subset ht)
theorem tv_spliced {ds : List DV} {cs : List Sc} {p c : Nat} (h : WF σ) (hn : newOk σ.last ds cs) : (σ.spliced b ds cs p c).tv b = (σ.tv b).take p ++ ds.map DV.told ++ (σ.tv b).drop (p + c) := by
  have e : (σ.spliced b ds cs p c).it b = spl (σ.it b) (newIts σ.scs.length cs) p c := (chg_f ds cs _ _).2.2.2.2.2.2.2.1
  have old : ∀ o ∈ σ.it b, (σ.spliced b ds cs p c).vl o = σ.vl o := fun o ho => chg_vl (h.has _ o ho)
  unfold Dm.tv
  rw [e]
  unfold spl
  rw [List.map_append, List.map_append, ← List.map_take, ← List.map_drop]
  congr 1
  · congr 1
    · exact List.map_congr_left fun o ho => by rw [old o (List.mem_of_mem_take ho)]
    · have := congrArg (List.map DV.told) (chg_vl_new (b := b) (its := spl (σ.it b) (newIts σ.scs.length cs) p c) (ms := tak (σ.it b) p c) hn)
      rw [List.map_map] at this
      exact this
  · exact List.map_congr_left fun o ho => by rw [old o (List.mem_of_mem_drop ho)]
theorem tv_tak {p c : Nat} : (tak (σ.it b) p c).map (fun o => (σ.vl o).told) = ((σ.tv b).drop p).take c := by unfold tak Dm.tv; rw [List.map_take, List.map_drop]
theorem tv_len : (σ.tv b).length = (σ.it b).length := by unfold Dm.tv; rw [List.length_map]
theorem made_nil : σ.made [] [] = σ := newc_nil
theorem push_eq {ds : List DV} {cs : List Sc} : (σ.made ds cs).setIt b (σ.it b ++ newIts σ.scs.length cs) = σ.spliced b ds cs (σ.it b).length 0 := by
  unfold Dm.spliced spl tak
  simp [Dm.drops]
theorem unshift_eq {ds : List DV} {cs : List Sc} : (σ.made ds cs).setIt b (newIts σ.scs.length cs ++ σ.it b) = σ.spliced b ds cs 0 0 := by
  unfold Dm.spliced spl tak
  simp [Dm.drops]
theorem pop_eq {xs : List (Option It)} {o : Option It} (he : σ.it b = xs ++ [o]) : (σ.setIt b xs).drop1 o = σ.spliced b [] [] xs.length 1 := by
  unfold Dm.spliced spl tak
  rw [he, made_nil]
  simp [Dm.drops, newIts]
theorem shift_eq {xs : List (Option It)} {o : Option It} (he : σ.it b = o :: xs) : (σ.setIt b xs).drop1 o = σ.spliced b [] [] 0 1 := by
  unfold Dm.spliced spl tak
  rw [he, made_nil]
  simp [Dm.drops, newIts]
theorem drops_setIp {ms : List (Option It)} {l : Addr} : (σ.setIp b l).drops ms = (σ.drops ms).setIp b l := by
  induction ms generalizing σ with
  | nil => rfl
  | cons m ms ih =>
    show ((σ.setIp b l).drop1 m).drops ms = ((σ.drop1 m).drops ms).setIp b l
    rw [← ih]
    congr 1
    cases m <;> cases b <;> rfl
theorem drops_setIt {ms its : List (Option It)} : (σ.setIt b its).drops ms = (σ.drops ms).setIt b its := by
  induction ms generalizing σ with
  | nil => rfl
  | cons m ms ih =>
    show ((σ.setIt b its).drop1 m).drops ms = ((σ.drop1 m).drops ms).setIt b its
    rw [← ih]
    congr 1
    cases m <;> cases b <;> rfl
theorem fill_eq {ds : List DV} {cs : List Sc} {l1 l : Addr} : ((((((σ.made ds cs).setIp b l1).setIt b []).drops (σ.it b)).setIp b l).setIt b (newIts σ.scs.length cs)) = (σ.spliced b ds cs 0 (σ.it b).length).setIp b l := by
  unfold Dm.spliced spl tak
  rw [List.drop_zero, List.take_zero, List.take_length, Nat.zero_add, List.drop_length, List.nil_append, List.append_nil, drops_setIt, drops_setIt, drops_setIp]
  cases b <;> rfl
theorem WF_setIp {l : Addr} (h : WF σ) : WF (σ.setIp b l) := by
  cases b <;> exact ⟨h.len, h.at1, h.at0, h.perm, h.sc, h.last, h.cj, h.script⟩
theorem tv_setIp {l : Addr} {b' : Bool} : (σ.setIp b l).tv b' = σ.tv b' := by
  unfold Dm.tv
  have : (σ.setIp b l).vl = σ.vl := by funext o; cases b <;> cases o <;> rfl
  rw [this]
  cases b <;> cases b' <;> rfl
theorem resz_lt {n : Nat} (h : n < (σ.it b).length) : σ.resz b n = σ.spliced b [] [] n ((σ.it b).length - n) := by
  unfold Dm.resz Dm.spliced spl tak
  rw [if_pos h, made_nil]
  have e1 : n + ((σ.it b).length - n) = (σ.it b).length := by lia
  have e2 : ((σ.it b).drop n).take ((σ.it b).length - n) = (σ.it b).drop n := List.take_of_length_le (by rw [List.length_drop]; exact Nat.le_refl _)
  rw [e1, e2, List.drop_length, newIts, List.append_nil, List.append_nil]
theorem resz_ge {n : Nat} (h : ¬ n < (σ.it b).length) : σ.resz b n = σ.chg b [] [] (σ.it b ++ List.replicate (n - (σ.it b).length) none) [] := by
  unfold Dm.resz Dm.chg
  rw [if_neg h, made_nil]; rfl
theorem WF_grow {n : Nat} (h : WF σ) (hz : (σ.it b).length + n ≤ 7) : WF (σ.chg b [] [] (σ.it b ++ List.replicate n none) []) := by
  have e : ixs (List.replicate n none) = [] := by
    induction n with
    | zero => rfl
    | succ n ih => rw [List.replicate_succ]; exact ih (by lia)
  refine WF_chg h (ds := []) (cs := []) trivial (by simp) (by rw [List.length_append, List.length_replicate]; exact hz) ?_ fun t ht => ?_
  · rw [ixs_append, e]; simp [ixs, newIts]
  · rw [List.append_nil] at ht
    rcases List.mem_append.mp ht with ht | ht
    · exact List.mem_append_left _ ht
    · exact absurd (List.eq_of_mem_replicate ht) (by simp)
theorem tv_grow {n : Nat} (h : WF σ) : (σ.chg b [] [] (σ.it b ++ List.replicate n none) []).tv b = σ.tv b ++ List.replicate n .none := by
  unfold Dm.tv
  rw [(chg_f [] [] _ []).2.2.2.2.2.2.2.1, List.map_append]
  congr 1
  · exact List.map_congr_left fun o ho => by rw [chg_vl (h.has _ o ho)]
  · rw [List.map_replicate]; rfl
theorem sp_take {α : Type} {xs es : List α} {p c : Nat} (h : p + c ≤ xs.length) : (xs.take p ++ es ++ xs.drop (p + c)).take p = xs.take p := by
  have h1 : (xs.take p).length = p := by rw [List.length_take]; lia
  rw [List.append_assoc, List.take_append_of_le_length (by lia), List.take_of_length_le (by lia)]
theorem sp_drop {α : Type} {xs es : List α} {p c : Nat} (h : p + c ≤ xs.length) : (xs.take p ++ es ++ xs.drop (p + c)).drop (p + es.length) = xs.drop (p + c) := by
  have h1 : (xs.take p ++ es).length = p + es.length := by rw [List.length_append, List.length_take]; lia
  rw [← h1, List.drop_left]
theorem sp_mid {α : Type} {xs es : List α} {p c : Nat} (h : p + c ≤ xs.length) : ((xs.take p ++ es ++ xs.drop (p + c)).drop p).take es.length = es := by
  have h1 : (xs.take p).length = p := by rw [List.length_take]; lia
  rw [List.append_assoc]
  have : (xs.take p ++ (es ++ xs.drop (p + c))).drop p = es ++ xs.drop (p + c) := by
    conv => lhs; rw [← h1]
    rw [h1, List.drop_append_of_le_length (by lia), List.drop_of_length_le (by lia), List.nil_append]
  rw [this, List.take_append_of_le_length (Nat.le_refl _), List.take_of_length_le (Nat.le_refl _)]
theorem sp_cut {α : Type} {xs : List α} {p c : Nat} : xs.take p ++ (xs.drop p).take c ++ xs.drop (p + c) = xs := by
  rw [List.append_assoc, ← List.drop_drop, List.take_append_drop, List.take_append_drop]
theorem sp_back {α : Type} {xs es : List α} {p c : Nat} (h : p + c ≤ xs.length) : (xs.take p ++ es ++ xs.drop (p + c)).take p ++ (xs.drop p).take c ++ (xs.take p ++ es ++ xs.drop (p + c)).drop (p + es.length) = xs := by
  rw [sp_take h, sp_drop h, sp_cut]
end
end Mine
end
section
open PySem PySem.W PySem.Calls PyProof.Rows
set_option maxRecDepth 100000
namespace Mine
section
variable {σ : Dm} {b : Bool}
theorem WF_rl {sc : List Int} {r : Int} (h : WF σ) (hs : sc.length ≤ 60) : WF (σ.rl sc r) :=
  ⟨fun b => by cases b <;> exact h.len _, fun b => by cases b <;> exact h.at1 _, h.at0, h.perm, fun i c e => let ⟨a1, a2, a3, a4⟩ := h.sc i c e; ⟨a1, a2, a3, ok_of a4 rfl⟩, h.last, h.cj, hs⟩
theorem tv_rl {sc : List Int} {r : Int} : (σ.rl sc r).tv b = σ.tv b := by
  have : (σ.rl sc r).vl = σ.vl := by funext o; cases o <;> rfl
  unfold Dm.tv; rw [this]; cases b <;> rfl
theorem WF_addR {rs : List Rf} (h : WF σ) : WF (σ.addR rs) :=
  ⟨fun b => by cases b <;> exact h.len _, fun b => by cases b <;> exact h.at1 _, h.at0, h.perm, fun i c e => let ⟨a1, a2, a3, a4⟩ := h.sc i c e; ⟨a1, a2, a3, by
    cases q : c.val with
    | rf f => rw [q] at a4; exact List.mem_append_left _ a4
    | _ => trivial⟩, h.last, h.cj, h.script⟩
theorem tv_addR {rs : List Rf} : (σ.addR rs).tv b = σ.tv b := by
  have : (σ.addR rs).vl = σ.vl := by funext o; cases o <;> rfl
  unfold Dm.tv; rw [this]; cases b <;> rfl
noncomputable def bN (p : Bool) : Nat := if p then 1 else 0
theorem cnt_setv {j : Bool} {x : DV} {cs : List Sc} : ∀ {i : Nat} {c : Sc}, cs[i]? = some c → c.freed = false → cntJ j (cs.modify i (Sc.setv x)) + bN (isJ j c.val) = cntJ j cs + bN (isJ j x) := by
  induction cs with
  | nil => intro i c e; cases e
  | cons d cs ih =>
    intro i c e hf
    cases i with
    | zero =>
      cases e
      unfold cntJ bN
      show List.countP _ (Sc.setv x d :: cs) + _ = _
      rw [List.countP_cons, List.countP_cons]
      have h1 : (Sc.setv x d).freed = false := hf
      have h2 : (Sc.setv x d).val = x := rfl
      rw [h1, h2, hf]
      simp only [Bool.not_false, Bool.true_and]
      lia
    | succ i =>
      have := ih (i := i) (c := c) (by simpa using e) hf
      unfold cntJ at this ⊢
      rw [List.modify_succ_cons, List.countP_cons, List.countP_cons]
      lia
theorem cnt_pos {j : Bool} {cs : List Sc} {i : Nat} {c : Sc} (e : cs[i]? = some c) (hf : c.freed = false) (hj : isJ j c.val = true) : 0 < cntJ j cs := by
  unfold cntJ
  rw [List.countP_pos_iff]
  exact ⟨c, List.mem_of_getElem? e, by rw [hf, hj]; rfl⟩
noncomputable def Dm.stored (σ : Dm) (t : It) (c : Sc) (x : DV) : Dm := ((σ.take x).setv t x).untake c.val
theorem untake_f {x : DV} : (σ.untake x).A = σ.A ∧ (σ.untake x).refs = σ.refs ∧ (σ.untake x).scs = σ.scs ∧ (σ.untake x).zero = σ.zero ∧ (σ.untake x).last = σ.last ∧ (σ.untake x).script = σ.script ∧ (σ.untake x).rolled = σ.rolled ∧ (∀ b, (σ.untake x).it b = σ.it b) ∧ ∀ j, (σ.untake x).cj j = σ.cj j - bN (isJ j x) := by
  cases x with
  | rf f =>
    obtain ⟨r, rd, q⟩ := f
    cases q <;> exact ⟨rfl, rfl, rfl, rfl, rfl, rfl, rfl, fun b => by cases b <;> rfl, fun j => by cases j <;> simp [Dm.untake, Dm.addc, Dm.cj, isJ, bN] <;> lia⟩
  | _ => exact ⟨rfl, rfl, rfl, rfl, rfl, rfl, rfl, fun b => rfl, fun j => by simp [Dm.untake, isJ, bN]⟩
theorem take_f {x : DV} : (∀ b, (σ.take x).it b = σ.it b) ∧ (σ.take x).script = σ.script ∧ (σ.take x).rolled = σ.rolled := by
  cases x with
  | rf f =>
    obtain ⟨r, rd, q⟩ := f
    cases q <;> exact ⟨fun b => by cases b <;> rfl, rfl, rfl⟩
  | _ => exact ⟨fun b => rfl, rfl, rfl⟩
theorem stored_f {t : It} {c : Sc} {x : DV} : (σ.stored t c x).A = σ.A ∧ (σ.stored t c x).refs = σ.refs ∧ (σ.stored t c x).scs = σ.scs.modify t.i (Sc.setv x) ∧ (σ.stored t c x).zero = σ.zero ∧ (σ.stored t c x).last = σ.last ∧ (σ.stored t c x).script = σ.script ∧ (σ.stored t c x).rolled = σ.rolled ∧
    (∀ b, (σ.stored t c x).it b = σ.it b) ∧ ∀ j, (σ.stored t c x).cj j = σ.cj j + bN (isJ j x) - bN (isJ j c.val) := by
  obtain ⟨a1, a2, a3, a4, a5, a6, a7, a8, a9⟩ := untake_f (σ := (σ.take x).setv t x) (x := c.val)
  obtain ⟨b1, b2, b3, b4, b5⟩ := take_A (σ := σ) (x := x)
  obtain ⟨c1, c2, c3⟩ := take_f (σ := σ) (x := x)
  refine ⟨a1.trans b1, a2.trans b3, a3.trans ?_, a4.trans b5, a5.trans b2, a6.trans c2, a7.trans c3, fun b => (a8 b).trans ?_, fun j => (a9 j).trans ?_⟩
  · show (σ.take x).scs.modify t.i (Sc.setv x) = _; rw [b4]
  · refine Eq.trans ?_ (c1 b); cases b <;> rfl
  · have : ((σ.take x).setv t x).cj j = (σ.take x).cj j := by cases j <;> rfl
    rw [this, take_cj]
    unfold bN
    split <;> simp_all
theorem stored_at {t u : It} {c d : Sc} {x : DV} (h : σ.At u d) : ∃ d', (σ.stored t c x).At u d' ∧ d'.cnt = d.cnt ∧ (u.i ≠ t.i → d' = d) := by
  obtain ⟨h1, h2⟩ := h
  have e := (stored_f (σ := σ) (t := t) (c := c) (x := x)).2.2.1
  by_cases q : t.i = u.i
  · refine ⟨d.setv x, ⟨by rw [e, List.getElem?_modify]; simp only [if_pos q, h1]; rfl, h2⟩, rfl, fun n => absurd q.symm n⟩
  · exact ⟨d, ⟨by rw [e, List.getElem?_modify]; simp only [if_neg q]; simpa using h1, h2⟩, rfl, fun _ => rfl⟩
theorem WF_stored {t : It} {c : Sc} {x : DV} (h : WF σ) (hc : σ.At t c) (okx : x.ok σ) : WF (σ.stored t c x) := by
  obtain ⟨e1, e2, e3, e4, e5, e6, e7, e8, e9⟩ := stored_f (σ := σ) (t := t) (c := c) (x := x)
  have hsc := h.sc _ _ hc.1
  refine ⟨fun b => by rw [e8]; exact h.len b, fun b u hu => ?_, fun u hu => ?_, ?_, fun i d hi => ?_, by rw [e5, e3, List.length_modify]; exact h.last, fun j => ?_, by rw [e6]; exact h.script⟩
  · rw [e8] at hu
    obtain ⟨d, hd, h1⟩ := h.at1 b u hu
    obtain ⟨d', h2, h3, _⟩ := stored_at (t := t) (c := c) (x := x) hd
    exact ⟨d', h2, h3.trans h1⟩
  · rw [e4] at hu
    obtain ⟨d, hd, h1⟩ := h.at0 u hu
    obtain ⟨d', h2, h3, _⟩ := stored_at (t := t) (c := c) (x := x) hd
    exact ⟨d', h2, h3.trans h1⟩
  · rw [e8, e8, e4, e3, List.length_modify]; exact h.perm
  · rw [e3, List.getElem?_modify] at hi
    cases q : σ.scs[i]? with
    | none => rw [q] at hi; cases hi
    | some d' =>
      rw [q] at hi
      simp only [Option.map_eq_map, Option.map_some, Option.some.injEq] at hi
      obtain ⟨a1, a2, a3, a4⟩ := h.sc i d' q
      split at hi
      · subst hi; exact ⟨a1, a2, a3, ok_of okx e2⟩
      · subst hi; exact ⟨a1, a2, a3, ok_of a4 e2⟩
  · rw [e9, h.cj, e3]
    have := cnt_setv (j := j) (x := x) hc.1 hsc.2.1
    lia
theorem loose_of {t : It} {c : Sc} {x : DV} (h : WF σ) (hc : σ.At t c) : (σ.take x).loose c.val := by
  cases q : c.val with
  | rf f =>
    show 1 < (σ.take x).cj f.j
    rw [take_cj, h.cj]
    have := cnt_pos (j := f.j) hc.1 (h.sc _ _ hc.1).2.1 (by rw [q]; simp [isJ])
    split <;> lia
  | _ => trivial
theorem tv_stored {t : It} {c : Sc} {x : DV} {j : Nat} (h : WF σ) (hj : (σ.it b)[j]? = some (some t)) (hc : σ.At t c) : (σ.stored t c x).tv b = (σ.tv b).set j x.told ∧ (σ.stored t c x).tv (!b) = σ.tv (!b) := by
  obtain ⟨e1, e2, e3, e4, e5, e6, e7, e8, e9⟩ := stored_f (σ := σ) (t := t) (c := c) (x := x)
  have hlt := (List.getElem?_eq_some_iff.mp hj).1
  have other : ∀ o, (∀ u, o = some u → u.i ≠ t.i) → (σ.stored t c x).vl o = σ.vl o := fun o ho => by
    cases o with
    | none => rfl
    | some u =>
      unfold Dm.vl
      dsimp only
      rw [e3, List.getElem?_modify]
      simp only [if_neg (fun q : t.i = u.i => ho u rfl q.symm)]
      cases σ.scs[u.i]? <;> rfl
  have self : (σ.stored t c x).vl (some t) = x := by
    unfold Dm.vl
    dsimp only
    rw [e3, List.getElem?_modify]
    simp only [if_true, hc.1]; rfl
  have hn := h.nodup
  constructor
  · unfold Dm.tv
    rw [e8]
    apply List.ext_getElem?
    intro i
    rw [List.getElem?_map, List.getElem?_set]
    by_cases q : j = i
    · subst q
      rw [hj, if_pos rfl, List.length_map, if_pos hlt]
      simp only [Option.map_some, self]
    · rw [if_neg q, List.getElem?_map]
      cases r : (σ.it b)[i]? with
      | none => rfl
      | some o =>
        simp only [Option.map_some]
        rw [other o fun u hu hi => ?_]
        subst hu
        have hnb := h.nodupB b
        -- both at distinct places have distinct indices
        have : j = i := by
          have m1 := ixs_notin hnb hj
          have m2 := ixs_notin hnb r
          rcases Nat.lt_trichotomy j i with l | l | l
          · exfalso; refine m2 (mem_ixs.mpr ⟨t, ?_, hi.symm⟩)
            exact List.mem_of_getElem? (i := j) (by rw [List.getElem?_take_of_lt l]; exact hj)
          · exact l
          · exfalso; refine m1 (mem_ixs.mpr ⟨u, ?_, hi⟩)
            exact List.mem_of_getElem? (i := i) (by rw [List.getElem?_take_of_lt l]; exact r)
        exact q this
  · unfold Dm.tv
    rw [e8]
    refine List.map_congr_left fun o ho => ?_
    rw [other o fun u hu hi => ?_]
    subst hu
    have m1 : t.i ∈ ixs (σ.it b) := mem_ixs.mpr ⟨t, List.mem_of_getElem? hj, rfl⟩
    have m2 : t.i ∈ ixs (σ.it (!b)) := mem_ixs.mpr ⟨u, ho, hi⟩
    have hn1 := (List.nodup_append.mp hn).1
    cases b
    · exact (List.nodup_append.mp hn1).2.2 _ m1 _ m2 rfl
    · exact (List.nodup_append.mp hn1).2.2 _ m2 _ m1 rfl
end
end Mine
end
section
open PySem PySem.W PySem.Calls PyProof.Rows
set_option maxRecDepth 100000
namespace Mine
structure Nx (σ σ' : Dm) (a : Nat) (r : Int) : Prop where
  wf : WF σ'
  A : σ'.A = σ.A
  r1 : σ.rolled ≤ σ'.rolled
  r2 : σ'.rolled ≤ σ.rolled + r
  n : σ'.scs.length ≤ σ.scs.length + a
  ok : ∀ x : DV, x.ok σ → x.ok σ'
theorem Nx.trans {σ σ' σ'' : Dm} {a a' : Nat} {r r' : Int} (h : Nx σ σ' a r) (h' : Nx σ' σ'' a' r') : Nx σ σ'' (a + a') (r + r') :=
  ⟨h'.wf, h'.A.trans h.A, Int.le_trans h.r1 h'.r1, by have := h.r2; have := h'.r2; lia, by have := h.n; have := h'.n; lia, fun x hx => h'.ok x (h.ok x hx)⟩
theorem Nx.mono {σ σ' : Dm} {a a' : Nat} {r r' : Int} (h : Nx σ σ' a r) (ha : a ≤ a') (hr : r ≤ r') : Nx σ σ' a' r' := ⟨h.wf, h.A, h.r1, by have := h.r2; lia, by have := h.n; lia, h.ok⟩
structure Bd (σ : Dm) (a : Nat) (r : Int) : Prop where
  wf : WF σ
  r0 : 0 ≤ σ.rolled
  r : σ.rolled + r ≤ 100000
  n : σ.scs.length + a ≤ 900
theorem Bd.tape {σ : Dm} {a : Nat} {r : Int} (h : Bd σ a r) {r' : Int} (hr : r' ≤ r) : σ.tape r' := ⟨h.wf.script, h.r0, by have := h.r; lia⟩
theorem Bd.nx {σ σ' : Dm} {a a' : Nat} {r r' : Int} (h : Bd σ (a + a') (r + r')) (h' : Nx σ σ' a' r') : Bd σ' a r := ⟨h'.wf, Int.le_trans h.r0 h'.r1, by have := h.r; have := h'.r2; lia, by have := h.n; have := h'.n; lia⟩
theorem Bd.le {σ : Dm} {a a' : Nat} {r r' : Int} (h : Bd σ a r) (ha : a' ≤ a) (hr : r' ≤ r) : Bd σ a' r' := ⟨h.wf, h.r0, by have := h.r; lia, by have := h.n; lia⟩
theorem Bd.z {σ : Dm} {a : Nat} {r : Int} (h : Bd σ a r) (b : Bool) : σ.zero.length + (σ.it b).length ≤ 1000 := by have := h.wf.zero; have := h.wf.len b; have := h.n; lia
theorem Bd.l {σ : Dm} {a : Nat} {r : Int} (h : Bd σ a r) (b : Bool) : (σ.it b).length ≤ 900 := by have := h.wf.len b; lia
section
variable {w : World} {s₀ s : Shared} {W W' X R : Led} {A : Around} {E : Value → Shared → Prop} {Q : Value → Shared → Prop} {env : Env} {σ : Dm} {b : Bool}
theorem spliced_nx {ds : List DV} {cs : List Sc} {p c : Nat} (h : WF σ) (hn : newOk σ.last ds cs) (ok : ∀ x ∈ ds, x.ok σ) (hpc : p + c ≤ (σ.it b).length) (hz : (σ.it b).length - c + ds.length ≤ 7) : Nx σ (σ.spliced b ds cs p c) ds.length 0 := by
  obtain ⟨e1, e2, e3, e4, e5, e6, e7, e8, e9⟩ := chg_f (σ := σ) (b := b) ds cs (spl (σ.it b) (newIts σ.scs.length cs) p c) (tak (σ.it b) p c)
  refine ⟨WF_spliced h hn ok hpc hz, e1, Int.le_of_eq e6.symm, by show (σ.chg _ _ _ _ _).rolled ≤ _; lia, by show (σ.chg _ _ _ _ _).scs.length ≤ _; rw [e4, newOk_len hn]; exact Nat.le_refl _, fun x hx => ok_of hx e2⟩
theorem rl_nx {sc : List Int} {r r' : Int} (h : WF σ) (hs : sc.length ≤ 60) (h1 : σ.rolled ≤ r) (h2 : r ≤ σ.rolled + r') : Nx σ (σ.rl sc r) 0 r' := ⟨WF_rl h hs, rfl, h1, h2, Nat.le_refl _, fun x hx => ok_of hx rfl⟩
theorem addR_nx {rs : List Rf} (h : WF σ) : Nx σ (σ.addR rs) 0 0 := ⟨WF_addR h, rfl, Int.le_refl _, by show σ.rolled ≤ _; lia, Nat.le_refl _, fun x hx => by
  cases x with
  | rf f => exact List.mem_append_left _ hx
  | _ => trivial⟩
theorem rla_nx {sc : List Int} {r r' : Int} {rs : List Rf} (h : WF σ) (hs : sc.length ≤ 60) (h1 : σ.rolled ≤ r) (h2 : r ≤ σ.rolled + r') : Nx σ ((σ.rl sc r).addR rs) 0 r' :=
  ((rl_nx h hs h1 h2).trans (addR_nx (WF_rl h hs))).mono (Nat.le_refl _) (by lia)
theorem tv_rla {sc : List Int} {r : Int} {rs : List Rf} : ((σ.rl sc r).addR rs).tv b = σ.tv b := tv_addR.trans tv_rl
theorem lsplice_nx {A₀ : Ad} {ds : List DV} {vl : Addr} {p c : Nat} {t u : Tok} (S : Sp w s₀ (objs σ ++ R) s) (hA : Rm A 12) (hb : Bd σ ds.length 2) (hl : (vl, .list (ds.map DV.val)) ∈ R) (ok : ∀ x ∈ ds, x.ok σ) (hpc : p + c ≤ (σ.tv b).length) (hz : (σ.tv b).length - c + ds.length ≤ 7)
    (h : ∀ σ' (ts : List Tv) l s', Nx σ σ' ds.length 2 → σ'.tv b = (σ.tv b).take p ++ ds.map DV.told ++ (σ.tv b).drop (p + c) → σ'.tv (!b) = σ.tv (!b) → ts.map Tv.t = ((σ.tv b).drop p).take c →
      Sp w s₀ (objs σ' ++ ((l, .list (ts.map Tv.val)) :: ((ts.flatMap Tv.objs).reverse ++ R))) s' → Q (.ref l) s') (eA₀ : σ.A = A₀ := by rfl) :
    wpAny (model pg w) A (call (.ref 616) [.ref A₀.cup, .ref (A₀.ar b), .int p t, .int c u, .ref vl]) Q E s := by
  rw [tv_len] at hpc hz
  have eit : ∀ sc r, (σ.rl sc r).it b = σ.it b := fun sc r => by cases b <;> rfl
  refine lsplice_ok S hA (hb.tape (Int.le_refl _)) hl ok hpc hz (hb.z b) (hb.l b) (by lia) (hb.wf.live b) (hb.wf.nodupB b) (hb.wf.okv b) (fun cs sc r ts l s' hn hsc r1 r2 hts S' => ?_) eA₀
  have n1 := rl_nx (r' := 2) hb.wf hsc r1 r2
  have n2 := spliced_nx (b := b) (p := p) (c := c) n1.wf hn (fun x hx => n1.ok x (ok x hx)) (by rw [eit]; exact hpc) (by rw [eit]; exact hz)
  refine h _ ts l s' ((n1.trans n2).mono (by lia) (by lia)) ?_ ?_ ?_ S'
  · rw [tv_spliced n1.wf hn, tv_rl]
  · exact (tv_other n1.wf).trans tv_rl
  · rw [hts, tv_tak]
theorem values_nx {A₀ : Ad} {n : Nat} {t : Tok} (S : Sp w s₀ (objs σ ++ R) s) (hA : Rm A 6) (hn : n ≤ 10) (hb : Bd σ 0 30)
    (h : ∀ σ' (ds : List DV) l s', Nx σ σ' 0 30 → (∀ b, σ'.tv b = σ.tv b) → ds.length ≤ n → (∀ x ∈ ds, x.ok σ') → Sp w s₀ (objs σ' ++ ((l, .list (ds.map DV.val)) :: R)) s' → Q (.ref l) s') (eA₀ : σ.A = A₀ := by rfl) :
    wpAny (model pg w) A (call (.ref 597) [.ref A₀.cup, .int n t]) Q E s :=
  values_spec S hA hn (hb.tape (Int.le_refl _)) (fun ds l sc r rs s' h1 h2 h3 h4 h5 S' => h _ ds l s' (rla_nx hb.wf h3 h4 h5) (fun b => tv_rla) h1 h2 S') eA₀
theorem value_nx {A₀ : Ad} (S : Sp w s₀ (objs σ ++ R) s) (hA : Rm A 4) (hb : Bd σ 0 2)
    (h : ∀ σ' (x : DV) v s', Nx σ σ' 0 2 → (∀ b, σ'.tv b = σ.tv b) → er v = x.val → x.ok σ' → Sp w s₀ (objs σ' ++ R) s' → Q v s') (eA₀ : σ.A = A₀ := by rfl) : wpAny (model pg w) A (call (.ref 592) [.ref A₀.cup]) Q E s :=
  value_spec S hA (hb.tape (Int.le_refl _)) (fun x v sc r rs s' h1 h2 h3 h4 h5 S' => h _ x v s' (rla_nx hb.wf h3 h4 h5) (fun b => tv_rla) h1 h2 S') eA₀
theorem roll_nx {A₀ : Ad} {n : Int} {t : Tok} (S : Sp w s₀ (objs σ ++ R) s) (hA : Rm A 2) (hn : 0 < n) (hb : Bd σ 0 1) (h : ∀ σ' i t s', Nx σ σ' 0 1 → (∀ b, σ'.tv b = σ.tv b) → 0 ≤ i → i < n → Sp w s₀ (objs σ' ++ R) s' → Q (.int i t) s') (eA₀ : σ.A = A₀ := by rfl) : wpAny (model pg w) A (call (.ref 585) [.ref A₀.cup, .int n t]) Q E s :=
  roll_spec S hA hn (hb.tape (Int.le_refl _)) (fun i t sc s' h1 h2 h3 S' => h _ i t s' (rl_nx hb.wf h3 (by lia) (Int.le_refl _)) (fun b => tv_rl) h1 h2 S') eA₀
noncomputable def endV (ts : List TV) : TV := ts.getLast?.getD .none
theorem pop_nx {A₀ : Ad} {c : Nat} (S : Sp w s₀ (objs σ ++ R) s) (hA : Rm A 6) (hb : Bd σ 0 0) (hc : c = min (σ.tv b).length 1)
    (h : ∀ σ' (x : DV) u s', Nx σ σ' 0 0 → σ'.tv b = (σ.tv b).take ((σ.tv b).length - c) ++ (σ.tv b).drop ((σ.tv b).length - c + c) → σ'.tv (!b) = σ.tv (!b) → x.ok σ' → x.told = endV (((σ.tv b).drop ((σ.tv b).length - c)).take c) → er u = x.val → Sp w s₀ (objs σ' ++ R) s' → Q u s') (eA₀ : σ.A = A₀ := by rfl) :
    wpAny (model pg w) A (call (.ref 313) [.ref A₀.ctr, .ref (A₀.ar b)]) Q E s := by
  subst eA₀
  rw [tv_len] at hc
  rcases List.eq_nil_or_concat (σ.it b) with e | ⟨xs, o, e⟩
  · refine pop_nil S (hA.le (by decide)) e fun s' S' => ?_
    have et : σ.tv b = [] := by unfold Dm.tv; rw [e]; rfl
    refine h σ .none _ s' ⟨hb.wf, rfl, Int.le_refl _, by lia, Nat.le_refl _, fun _ z => z⟩ ?_ rfl trivial ?_ rfl S'
    · rw [et]; simp
    · rw [et]; simp [endV, DV.told]
  · rw [List.concat_eq_append] at e
    have hl : (σ.it b).length = xs.length + 1 := by rw [e]; simp
    have hc1 : c = 1 := by lia
    subst hc1
    have ho : o ∈ σ.it b := by rw [e]; simp
    refine pop_ok S hA e (fun t q => by subst q; exact hb.wf.at1 b t ho) (by have := hb.l b; lia) (by have := hb.z b; lia) fun u s' hu S' => ?_
    rw [pop_eq e] at S'
    have n2 := spliced_nx (b := b) (ds := []) (cs := []) (p := xs.length) (c := 1) hb.wf trivial (by simp) (by lia) (by have := hb.wf.len b; simp; lia)
    have hx := tv_spliced (b := b) (ds := []) (cs := []) (p := xs.length) (c := 1) hb.wf trivial
    have hk : (σ.tv b).length - 1 = xs.length := by rw [tv_len]; lia
    refine h _ (σ.vl o) u s' n2 ?_ (tv_other hb.wf) (n2.ok _ (hb.wf.okv b o ho)) ?_ hu S'
    · rw [hx, hk]; simp
    · rw [hk]
      have : σ.tv b = (xs.map fun o => (σ.vl o).told) ++ [(σ.vl o).told] := by unfold Dm.tv; rw [e, List.map_append]; rfl
      rw [this]
      simp [endV]
theorem shift_nx {A₀ : Ad} {c : Nat} (S : Sp w s₀ (objs σ ++ R) s) (hA : Rm A 6) (hb : Bd σ 0 0) (hc : c = min (σ.tv b).length 1)
    (h : ∀ σ' (x : DV) u s', Nx σ σ' 0 0 → σ'.tv b = (σ.tv b).take 0 ++ (σ.tv b).drop (0 + c) → σ'.tv (!b) = σ.tv (!b) → x.ok σ' → x.told = endV (((σ.tv b).drop 0).take c) → er u = x.val → Sp w s₀ (objs σ' ++ R) s' → Q u s') (eA₀ : σ.A = A₀ := by rfl) :
    wpAny (model pg w) A (call (.ref 320) [.ref A₀.ctr, .ref (A₀.ar b)]) Q E s := by
  subst eA₀
  rw [tv_len] at hc
  cases e : σ.it b with
  | nil =>
    refine shift_nil S (hA.le (by decide)) e fun s' S' => ?_
    have et : σ.tv b = [] := by unfold Dm.tv; rw [e]; rfl
    refine h σ .none _ s' ⟨hb.wf, rfl, Int.le_refl _, by lia, Nat.le_refl _, fun _ z => z⟩ ?_ rfl trivial ?_ rfl S'
    · rw [et]; simp
    · rw [et]; simp [endV, DV.told]
  | cons o xs =>
    have hl : (σ.it b).length = xs.length + 1 := by rw [e]; simp
    have hc1 : c = 1 := by lia
    subst hc1
    have ho : o ∈ σ.it b := by rw [e]; simp
    refine shift_ok S hA e (fun t q => by subst q; exact hb.wf.at1 b t ho) (by have := hb.l b; lia) (by have := hb.z b; lia) fun u s' hu S' => ?_
    rw [shift_eq e] at S'
    have n2 := spliced_nx (b := b) (ds := []) (cs := []) (p := 0) (c := 1) hb.wf trivial (by simp) (by lia) (by have := hb.wf.len b; simp; lia)
    have hx := tv_spliced (b := b) (ds := []) (cs := []) (p := 0) (c := 1) hb.wf trivial
    refine h _ (σ.vl o) u s' n2 ?_ (tv_other hb.wf) (n2.ok _ (hb.wf.okv b o ho)) ?_ hu S'
    · rw [hx]; simp
    · have : σ.tv b = (σ.vl o).told :: (xs.map fun o => (σ.vl o).told) := by unfold Dm.tv; rw [e]; rfl
      rw [this]
      simp [endV]
end
end Mine
end
section
open PySem PySem.W PySem.Calls PyProof.Rows
set_option maxRecDepth 100000
namespace Mine
set_option linter.unusedVariables false
section
variable {w : World} {s₀ s : Shared} {W W' X R : Led} {A : Around} {E : Value → Shared → Prop} {Q : Value → Shared → Prop} {env : Env} {σ : Dm} {b : Bool}
theorem eqS {x y : Str} {c : Bool} {t u : Tok} (hc : (x.cps.toList == y.cps.toList) = c) (h : Q (.bool c) s) : wpAny (model pg w) A (compareOp .Eq (.str x t) (.str y u)) Q E s := PySem.P.eq_str (by rw [hc]; exact h)
theorem sApp {α : Type} {l r x : List α} (h : l.Sublist r) : l.Sublist (x ++ r) := h.trans (List.sublist_append_right _ _)
noncomputable def Same (σ : Dm) : Prop := σ.tv false = σ.tv true
theorem getItemsB {A₀ : Ad} {ex : Bool} (b : Bool) (S : Sp w s₀ (objs σ ++ R) s) (h : ∀ s', Sp w s₀ (objs σ ++ R) s' → Q (.ref (σ.ip b)) s') (hA₀ : σ.A = A₀ := by rfl) : wpAny (model pg w) A (getAttr (.ref (A₀.ar b)) (k "items") ex) Q E s := getItems' S hA₀ rfl h
theorem lenItems (b : Bool) (S : Sp w s₀ (objs σ ++ R) s) (hz : (σ.it b).length ≤ 900) (h : ∀ t s', Sp w s₀ (objs σ ++ R) s' → Q (.int (σ.tv b).length t) s') : wpAny (model pg w) A (call (.builtin "len") [.ref (σ.ip b)]) Q E s := by
  refine lenL S arL (fun t s' S' => ?_) (by rw [List.length_map]; omega)
  rw [List.length_map, ← tv_len]; exact h t s' S'
theorem cupD' {A₀ : Ad} (h : σ.A = A₀) : (A₀.cup, SO.dict [(k "script", .ref A₀.scr), (k "rolled", vi σ.rolled), (k "counter", .ref A₀.ctr), (k "things", .ref A₀.thl), (k "one", .ref (A₀.ar false)), (k "other", .ref (A₀.ar true))]) ∈ objs σ ++ R := by subst h; exact cupD
theorem lastT_t {ts : List Tv} : (lastT ts).t = endV (ts.map Tv.t) := by
  unfold lastT endV
  dsimp only
  rw [List.getLast?_map]
  cases ts.getLast? <;> rfl
theorem lastT_objs {ts : List Tv} {p : Addr × SO} (h : p ∈ (lastT ts).objs) : p ∈ ts.flatMap Tv.objs := by
  unfold lastT at h
  dsimp only at h
  cases q : ts.getLast? with
  | none => rw [q] at h; cases h
  | some t => rw [q] at h; exact List.mem_flatMap.mpr ⟨t, List.mem_of_getLast? q, h⟩
theorem shrunk_spec {wy : Bool} {t : Tok} (S : Sp w s₀ (objs σ ++ R) s) (hA : Rm A 20) (hb : Bd σ 0 2) (hs : Same σ)
    (h : ∀ σ' s', Nx σ σ' 0 2 → Same σ' → Sp w s₀ (objs σ' ++ R) s' → Q (.bool true) s') : wpAny (model pg w) A (call (.ref 644) [.ref σ.A.cup, .str (if wy then k "pop" else k "shift") t]) Q E s := by
  refine callS [(k "way", .str (if wy then k "pop" else k "shift") t), (k "cup", .ref σ.A.cup)] S hA.lt rfl (by kernel_rfl) (BindsTo.of_eq rfl) (fun L s1 S1 => ?_)
  have hwy : ((if wy then k "pop" else k "shift").cps.toList == (k "pop").cps.toList) = wy := by cases wy <;> decide +kernel
  generalize (if wy then k "pop" else k "shift") = ws at hwy S1 ⊢
  refine wpAny_execs_cons (sw2 S1 hA.2.2 (Tuple_ (wpAny_items_cons (Subscript_ (nmL S1 (mR (.head _)) rfl (wpAny_Constant_str (gdr (S1.toks _) (cupD' rfl) rfl fun s2 S2 => ?_)))))))
  refine wpAny_items_cons (Subscript_ (nmL S2 (mR (.head _)) rfl (wpAny_Constant_str (gdr (S2.toks _) (cupD' rfl) rfl fun s3 S3 => ?_))))
  refine wpAny_items_nil (newT S3 fun tp s4 S4 => ⟨_, _, tp, L, .ref (σ.A.ar false), .ref (σ.A.ar true), _, rfl, S4.inn.swap, mR (.tail _ (.head _)), rfl, fun u v s5 hu hv S5 => ?_⟩)
  obtain rfl := er_ref hu
  obtain rfl := er_ref hv
  refine wpAny_execs_cons (asgL S5 (callN (nmB (v := .builtin "len") S5 (by kernel_rfl) (by kernel_rfl) (bi1 (Attribute_any_ (nmL S5 (mR (.head _)) rfl (getItemsB false S5 fun s6 S6 => ?_)))))))
  refine lenItems false S6 (hb.l _) fun t7 s7 S7 => ⟨_, _, L, _, S7, uR .head, rfl, fun s8 S8 => ?_⟩
  -- the pop or the shift
  obtain ⟨c, hc⟩ : ∃ c : Nat, c = min (σ.tv false).length 1 := ⟨_, rfl⟩
  obtain ⟨p, hp⟩ : ∃ p : Nat, p = if wy then (σ.tv false).length - c else 0 := ⟨_, rfl⟩
  refine cutN (fun s => ∃ (σ' : Dm) (x : DV) (u : Value), Nx σ σ' 0 0 ∧ σ'.tv false = (σ.tv false).take p ++ (σ.tv false).drop (p + c) ∧ σ'.tv true = σ.tv true ∧ x.ok σ' ∧ x.told = endV (((σ.tv false).drop p).take c) ∧ er u = x.val ∧
    Sp w s₀ (objs σ' ++ ((L, .ns [(k "way", .str ws t), (k "cup", .ref σ.A.cup), (k "other", .ref (σ.A.ar true)), (k "one", .ref (σ.A.ar false)), (k "size", .int (σ.tv false).length t7), (k "answer", u)]) :: (tp, .tup [.ref (σ.A.ar false), .ref (σ.A.ar true)]) :: R)) s) ?_ ?_
  · refine asgL S8 (IfExp_ (wpAny_isTrue_Compare1 (nmL S8 (mR (.head _)) rfl (wpAny_Constant_str (eqS hwy (wpAny_truthy_bool ?_))))))
    have S9 := S8.toks (s8.toks + 1)
    cases wy with
    | true =>
      simp only [if_true] at hp ⊢
      refine callN (nmG (v := .ref 313) S9 (by kernel_rfl) (df2 S9 (by kernel_rfl) (Subscript_ (nmL S9 (mR (.head _)) rfl (wpAny_Constant_str (gdr (S9.toks _) (cupD' rfl) rfl fun s10 S10 => ?_))))))
      refine nmL S10 (mR (.head _)) rfl ⟨⟨_, S10⟩, ?_⟩
      refine pop_nx (b := false) S10 ((hA.down _).le (by decide)) (hb.le (by decide) (by decide)) hc fun σ' x u s11 n1 e1 e2 ok e3 hu S11 => ⟨_, _, L, _, S11, uR .head, rfl, fun s12 S12 => ?_⟩
      subst hp
      exact ⟨rfl, σ', x, u, n1, e1, e2, ok, e3, hu, S12⟩
    | false =>
      simp only [if_false, Bool.false_eq_true] at hp ⊢
      refine callN (nmG (v := .ref 320) S9 (by kernel_rfl) (df2 S9 (by kernel_rfl) (Subscript_ (nmL S9 (mR (.head _)) rfl (wpAny_Constant_str (gdr (S9.toks _) (cupD' rfl) rfl fun s10 S10 => ?_))))))
      refine nmL S10 (mR (.head _)) rfl ⟨⟨_, S10⟩, ?_⟩
      refine shift_nx (b := false) S10 ((hA.down _).le (by decide)) (hb.le (by decide) (by decide)) hc fun σ' x u s11 n1 e1 e2 ok e3 hu S11 => ⟨_, _, L, _, S11, uR .head, rfl, fun s12 S12 => ?_⟩
      subst hp
      exact ⟨rfl, σ', x, u, n1, e1, e2, ok, e3, hu, S12⟩
  rintro s9 ⟨σ', x, u, n1, e1, e2, okx, e3, hu, S9⟩
  refine wpAny_execs_cons (asgL S9 (callN (nmB (v := .builtin "min") S9 (by kernel_rfl) (by kernel_rfl) (bi2 (nmL S9 (mR (.head _)) rfl (wpAny_Constant_int ?_))))))
  refine minI (S9.toks _) (mR (.head _)) hA.2.2 fun t10 s10 S10 => ⟨_, _, L, _, S10, uR .head, rfl, fun s11 S11 => ?_⟩
  rw [show min ((σ.tv false).length : Int) 1 = (c : Int) by omega] at S11
  refine wpAny_execs_cons (wpAny_Return_some (wpAny_Compare1 (callN (nmG (v := .ref 602) S11 (by kernel_rfl) (df1 S11 (by kernel_rfl) (List_ (wpAny_items_cons (nmL S11 (mR (.head _)) rfl (wpAny_items_nil (newL S11 fun al s12 S12 => ?_))))))))))
  rw [show ([u].map er) = [x].map DV.val by rw [List.map_cons, hu]; rfl] at S12
  have S12 := S12.inn
  refine ⟨⟨_, S12⟩, told_spec S12 ((hA.down _).le (by decide)) (.head _) (fun y hy => by rw [List.mem_singleton.mp hy]; exact okx) (by simp) fun ts1 l1 s13 ht1 S13 => ?_⟩
  refine List_ (wpAny_items_cons (callN (nmG (v := .ref 414) S13 (by kernel_rfl) (df1 S13 (by kernel_rfl) (callN (nmG (v := .ref 616) S13 (by kernel_rfl) (df5 S13 (by kernel_rfl) ?_)))))))
  have mf : (L, SO.ns [(k "way", .str ws t), (k "cup", .ref σ.A.cup), (k "other", .ref (σ.A.ar true)), (k "one", .ref (σ.A.ar false)), (k "size", .int (σ.tv false).length t7), (k "answer", u), (k "count", .int c t10)]) ∈ objs σ' ++ ((l1, .list (ts1.map Tv.val)) :: ((ts1.flatMap Tv.objs).reverse ++ ((al, .list ([x].map DV.val)) :: (L, .ns [(k "way", .str ws t), (k "cup", .ref σ.A.cup), (k "other", .ref (σ.A.ar true)), (k "one", .ref (σ.A.ar false)), (k "size", .int (σ.tv false).length t7), (k "answer", u), (k "count", .int c t10)]) :: (tp, .tup [.ref (σ.A.ar false), .ref (σ.A.ar true)]) :: R))) :=
    mR (.tail _ (List.mem_append_right _ (.tail _ (.head _))))
  refine nmL S13 mf rfl (nmL S13 mf rfl (wpAny_mono (Q := fun v s' => ∃ t kk, v = .int p t ∧ s' = { s13 with toks := kk }) ?_ (fun v s14 z => ?_) fun _ _ z => z))
  · refine IfExp_ (wpAny_isTrue_Compare1 (nmL S13 mf rfl (wpAny_Constant_str (eqS hwy (wpAny_truthy_bool ?_)))))
    have S14 := S13.toks (s13.toks + 1)
    cases wy with
    | true =>
      simp only [if_true] at hp ⊢
      exact wpAny_BinOp (nmL S14 mf rfl (nmL S14 mf rfl (PyProof.Rows.sub_int ⟨_, _, by rw [show ((σ.tv false).length : Int) - (c : Int) = (p : Int) by omega], rfl⟩)))
    | false =>
      simp only [if_false, Bool.false_eq_true] at hp ⊢
      subst hp
      exact wpAny_Constant_int ⟨_, _, rfl, rfl⟩
  obtain ⟨t14, kk, rfl, rfl⟩ := z
  have S14 := S13.toks kk
  refine nmL S14 mf rfl (List_ (wpAny_items_nil (newL S14 fun nl s15 S15 => ?_)))
  have S15 := S15.inn
  have hpc : p + c ≤ (σ.tv true).length := by rw [← hs]; cases wy <;> simp only [if_true, if_false, Bool.false_eq_true] at hp <;> omega
  refine ⟨⟨_, S15⟩, lsplice_nx (ds := []) (b := true) S15 ((hA.down _).le (by decide)) ((Bd.nx (a := 0) (a' := 0) (r := 2) (r' := 0) hb n1).le (by simp) (by decide)) (.head _) (by simp) (by rw [e2]; exact hpc) (by rw [e2, tv_len]; have := hb.wf.len true; simp; omega) (fun σ'' ts2 l2 s16 n2 f1 f2 ht2 S16 => ?_) n1.A⟩
  refine ⟨⟨_, S16⟩, last_ok S16 ((hA.down _).le (by decide)) (.head _) (fun p hp => .tail _ (List.mem_append_left _ (by simpa using hp))) ?_ fun lu s17 hlu S17 => wpAny_items_nil (newL S17 fun ql s18 S18 => ?_)⟩
  · have := congrArg List.length ht2
    rw [List.length_map, List.length_take, List.length_drop] at this
    rw [this, e2, tv_len]
    have := hb.wf.len true
    omega
  have S18 := S18.inn
  rw [show ([lu].map er) = [lastT ts2].map Tv.val by rw [List.map_cons, hlu]; rfl] at S18
  refine eqTold S18 (Rm.u64 (n := 0) ((hA.down _).le (by decide))) (xs := ts1) (ys := [lastT ts2]) (mR (.tail _ (.tail _ (List.mem_append_right _ (.tail _ (.head _)))))) (fun p hp => mR (.tail _ (.tail _ (List.mem_append_right _ (.tail _ (.tail _ (List.mem_append_left _ (by simpa using hp)))))))) (mR (.head _)) (fun p hp => mR (.tail _ (.tail _ (List.mem_append_left _ (by rw [List.mem_reverse]; exact lastT_objs (by simpa using hp)))))) ?_
  have he : ts1.map Tv.t = [lastT ts2].map Tv.t := by
    rw [ht1, List.map_cons, List.map_nil, List.map_cons, List.map_nil, lastT_t, ht2, e2, e3, hs]
  rw [decide_eq_true he]
  refine h σ'' s18 ((n1.trans n2).mono (by simp) (by decide)) ?_ (S18.sub (.append_left (by repeat (first | exact List.Sublist.refl _ | refine sApp ?_ | refine List.Sublist.cons _ ?_)) _))
  show σ''.tv false = σ''.tv true
  have f2' : σ''.tv false = σ'.tv false := f2
  rw [f2', f1, e1, e2, hs]
  simp
end
end Mine
end
section
open PySem PySem.W PySem.Calls PyProof.Rows
set_option maxRecDepth 100000
namespace Mine
set_option linter.unusedVariables false
section
variable {w : World} {s₀ s : Shared} {W W' X R : Led} {A : Around} {E : Value → Shared → Prop} {Q : Value → Shared → Prop} {env : Env} {σ : Dm} {b : Bool}
theorem ixs_set {xs : List (Option It)} {j : Nat} {t : It} (h : xs[j]? = some none) : (ixs (xs.set j (some t))).Perm (ixs xs ++ [t.i]) := by
  induction xs generalizing j with
  | nil => cases h
  | cons o xs ih =>
    cases j with
    | zero =>
      cases h
      show (t.i :: ixs xs).Perm (ixs xs ++ [t.i])
      exact List.perm_append_comm (l₁ := [t.i])
    | succ j =>
      have := ih (j := j) (by simpa using h)
      cases o with
      | none => exact this
      | some u => exact this.cons u.i
theorem escalar_nx {i m : Int} {j : Nat} {t u : Tok} {A₀ : Ad} (S : Sp w s₀ (objs σ ++ R) s) (hA : Rm A 8) (hb : Bd σ 1 0) (hi : i < 0) (hj : i + (σ.tv b).length = j) (hjl : j < (σ.tv b).length)
    (h : ∀ σ' t c s', Nx σ σ' 1 0 → (∀ b', σ'.tv b' = σ.tv b') → (σ'.it b)[j]? = some (some t) → σ'.At t c → Sp w s₀ (objs σ' ++ R) s' → Q (.ref t.a) s') (eA₀ : σ.A = A₀ := by rfl) :
    wpAny (model pg w) A (call (.ref 369) [.ref A₀.ctr, .ref (A₀.ar b), .int i t, .int m u]) Q E s := by
  subst eA₀
  rw [tv_len] at hj hjl
  have hjo : (σ.it b)[j]? = some (σ.it b)[j] := List.getElem?_eq_getElem hjl
  refine escalar_ok S hA hi hj hjo (hb.l b) (fun t e s' S' => ?_) fun e c s' hc S' => ?_
  · rw [e] at hjo
    obtain ⟨c, hc, _⟩ := hb.wf.at1 b t (List.mem_of_getElem? hjo)
    exact h σ t c s' ⟨hb.wf, rfl, Int.le_refl _, by lia, by lia, fun _ z => z⟩ (fun _ => rfl) hjo hc S'
  · rw [e] at hjo
    have hw := WF_chg (b := b) (ds := [.none]) (cs := [c]) (its := (σ.it b).set j (some ⟨σ.scs.length, c.a⟩)) (ms := []) hb.wf hc (by intro x hx; rw [List.mem_singleton.mp hx]; trivial) (by rw [List.length_set]; exact hb.wf.len b)
      (by show (ixs _ ++ []).Perm _; rw [List.append_nil]; exact ixs_set hjo)
      (fun t ht => by
        rw [List.append_nil] at ht
        rcases List.mem_or_eq_of_mem_set ht with h1 | h1
        · exact List.mem_append_left _ h1
        · exact List.mem_append_right _ (by rw [h1]; exact .head _))
    obtain ⟨f1, f2, f3, f4, f5, f6, f7, f8, f9⟩ := chg_f (σ := σ) (b := b) [.none] [c] ((σ.it b).set j (some ⟨σ.scs.length, c.a⟩)) []
    have hnew := chg_vl_new (b := b) (its := (σ.it b).set j (some ⟨σ.scs.length, c.a⟩)) (ms := []) hc
    have hnew' : (σ.chg b [.none] [c] ((σ.it b).set j (some ⟨σ.scs.length, c.a⟩)) []).vl (some ⟨σ.scs.length, c.a⟩) = .none := (List.cons.inj hnew).1
    refine h (σ.chg b [.none] [c] ((σ.it b).set j (some ⟨σ.scs.length, c.a⟩)) []) ⟨σ.scs.length, c.a⟩ c s' ⟨hw, f1, Int.le_of_eq f6.symm, by lia, by rw [f4]; exact Nat.le_refl _, fun x hx => ok_of hx f2⟩ (fun b' => ?_) (by rw [f8, List.getElem?_set_self hjl]) ?_ S'
    · by_cases q : b' = b
      · subst q
        unfold Dm.tv
        rw [f8, List.map_set, hnew']
        apply List.ext_getElem?
        intro i
        rw [List.getElem?_set]
        by_cases r : j = i
        · subst r
          rw [if_pos rfl, List.length_map, if_pos hjl, List.getElem?_map, hjo]; rfl
        · rw [if_neg r, List.getElem?_map, List.getElem?_map]
          cases z : (σ.it b')[i]? with
          | none => rfl
          | some o => simp only [Option.map_some]; rw [chg_vl (hb.wf.has _ o (List.mem_of_getElem? z))]
      · have e : b' = !b := by cases b <;> cases b' <;> simp_all
        subst e
        exact tv_other hb.wf
    · refine ⟨?_, rfl⟩
      show (((σ.made [.none] [c]).setIt b _).drops []).scs[σ.scs.length]? = some c
      obtain ⟨x, y, em⟩ := made_eq σ [.none] [c]
      rw [em]
      cases b <;> (show (σ.scs ++ [c])[σ.scs.length]? = some c; simp)
theorem store_nx {A₀ : Ad} {t : It} {c : Sc} {x : DV} {v : Value} {j : Nat} (S : Sp w s₀ (objs σ ++ R) s) (hA : Rm A 5) (hb : Bd σ 0 0) (hj : (σ.it b)[j]? = some (some t)) (hc : σ.At t c) (hv : er v = x.val) (okx : x.ok σ)
    (h : ∀ σ' s', Nx σ σ' 0 0 → σ'.tv b = (σ.tv b).set j x.told → σ'.tv (!b) = σ.tv (!b) → Sp w s₀ (objs σ' ++ R) s' → Q .none s') (eA₀ : σ.A = A₀ := by rfl) : wpAny (model pg w) A (call (.ref 513) [.ref A₀.ctr, .ref t.a, v]) Q E s := by
  obtain ⟨e1, e2, e3, e4, e5, e6, e7, e8, e9⟩ := stored_f (σ := σ) (t := t) (c := c) (x := x)
  obtain ⟨g1, g2⟩ := tv_stored (x := x) hb.wf hj hc
  refine store_ok S hA hc hv okx (hb.wf.sc _ _ hc.1).2.2.2 (loose_of hb.wf hc) (by have := hb.wf.zero; have := hb.n; lia) (fun s' S' => h (σ.stored t c x) s' ⟨WF_stored hb.wf hc okx, e1, Int.le_of_eq e7.symm, by lia, by rw [e3, List.length_modify]; lia, fun y hy => ok_of hy e2⟩ g1 g2 S') eA₀
end
end Mine
end
section
open PySem PySem.W PySem.Calls PyProof.Rows
set_option maxRecDepth 100000
namespace Mine
set_option linter.unusedVariables false
section
variable {w : World} {s₀ s : Shared} {W W' X R : Led} {A : Around} {E : Value → Shared → Prop} {Q : Value → Shared → Prop} {env : Env} {σ : Dm} {b : Bool}
theorem vals_ok (hb : WF σ) (js : List Nat) : ∀ x ∈ js.map (fun j => σ.vl ((σ.it b)[j]?.getD none)), x.ok σ := fun x hx => by
  obtain ⟨j, _, rfl⟩ := List.mem_map.mp hx
  cases q : (σ.it b)[j]? with
  | none => trivial
  | some o => exact hb.okv b o (List.mem_of_getElem? q)
theorem stored_spec (S : Sp w s₀ (objs σ ++ R) s) (hA : Rm A 20) (hb : Bd σ 2 5) (hs : Same σ)
    (h : ∀ σ' s', Nx σ σ' 2 5 → Same σ' → Sp w s₀ (objs σ' ++ R) s' → Q (.bool true) s') : wpAny (model pg w) A (call (.ref 651) [.ref σ.A.cup]) Q E s := by
  refine callS [(k "cup", .ref σ.A.cup)] S hA.lt rfl (by kernel_rfl) (BindsTo.of_eq rfl) (fun L s1 S1 => ?_)
  refine wpAny_execs_cons (sw2 S1 hA.2.2 (Tuple_ (wpAny_items_cons (Subscript_ (nmL S1 (mR (.head _)) rfl (wpAny_Constant_str (gdr (S1.toks _) (cupD' rfl) rfl fun s2 S2 => ?_)))))))
  refine wpAny_items_cons (callN (nmB (v := .builtin "len") S2 (by kernel_rfl) (by kernel_rfl) (bi1 (Attribute_any_ (Subscript_ (nmL S2 (mR (.head _)) rfl (wpAny_Constant_str (gdr (S2.toks _) (cupD' rfl) rfl fun s3 S3 => ?_))))))))
  refine getItemsB false S3 fun s4 S4 => lenItems false S4 (hb.l _) fun t5 s5 S5 => ?_
  refine wpAny_items_nil (newT S5 fun tp s6 S6 => ⟨_, _, tp, L, .ref (σ.A.ar false), vi (σ.tv false).length, _, rfl, S6.inn.swap, mR (.tail _ (.head _)), rfl, fun u v s7 hu hv S7 => ?_⟩)
  obtain rfl := er_ref hu
  obtain ⟨t7, rfl⟩ := er_int hv
  refine wpAny_execs_cons (wpAny_If (wpAny_isTrue_Compare1 (nmL S7 (mR (.head _)) rfl (wpAny_Constant_int (PyProof.Rows.eq_int (wpAny_truthy_bool ?_))))))
  have S8 := S7.toks (s7.toks + 1)
  by_cases q : (σ.tv false).length = 0
  · rw [q]
    refine wpAny_execs_cons (wpAny_Return_some (wpAny_Constant_bool ?_))
    exact h σ _ ⟨hb.wf, rfl, Int.le_refl _, by lia, by lia, fun _ z => z⟩ hs (S8.sub (.append_left (.cons _ (.cons _ (.refl _))) _))
  · rw [show (((σ.tv false).length : Int) == 0) = false by rw [beq_eq_false_iff_ne]; lia]
    refine wpAny_execs_nil (wpAny_execs_cons (sw2 S8 hA.2.2 (Tuple_ (wpAny_items_cons (callN (nmG (v := .ref 585) S8 (by kernel_rfl) (df2 S8 (by kernel_rfl) (nmL S8 (mR (.head _)) rfl (nmL S8 (mR (.head _)) rfl ⟨⟨_, S8⟩, ?_⟩)))))))))
    refine roll_nx S8 ((hA.down _).le (by decide)) (by lia) (hb.le (by decide) (by decide)) fun σ1 i t9 s9 n1 v1 i0 i1 S9 => ?_
    obtain ⟨j, rfl⟩ := Int.eq_ofNat_of_zero_le i0
    have b1 : Bd σ1 2 4 := Bd.nx (a' := 0) (r' := 1) hb n1
    refine wpAny_items_cons (callN (nmG (v := .ref 592) S9 (by kernel_rfl) (df1 S9 (by kernel_rfl) (nmL S9 (mR (.head _)) rfl ⟨⟨_, S9⟩, ?_⟩))))
    refine value_nx S9 ((hA.down _).le (by decide)) (b1.le (by decide) (by decide)) (fun σ2 x v10 s10 n2 v2 hv10 okx S10 => ?_) n1.A
    have b2 : Bd σ2 2 2 := Bd.nx (a' := 0) (r' := 2) b1 n2
    have n12 := n1.trans n2
    have v12 : ∀ b, σ2.tv b = σ.tv b := fun b => (v2 b).trans (v1 b)
    have A12 : σ2.A = σ.A := n12.A
    refine wpAny_items_nil (newT S10 fun tq s11 S11 => ⟨_, _, tq, L, vi j, x.val, _, rfl, by rw [show ([.int j t9, v10] : List Value).map er = [vi j, x.val] by rw [List.map_cons, List.map_cons, hv10]; rfl] at S11; exact S11.inn.swap, mR (.tail _ (.head _)), rfl, fun u v s12 hu hv S12 => ?_⟩)
    obtain ⟨t12, rfl⟩ := er_int hu
    have hjl : j < (σ2.tv false).length := by rw [v12]; lia
    -- before
    refine wpAny_execs_cons (asgL S12 (callN (nmG (v := .ref 602) S12 (by kernel_rfl) (df1 S12 (by kernel_rfl) (callN (nmG (v := .ref 400) S12 (by kernel_rfl) (df2 S12 (by kernel_rfl) (nmL S12 (mR (.head _)) rfl (List_ (wpAny_items_cons (nmL S12 (mR (.head _)) rfl (wpAny_items_nil (newL S12 fun jl s13 S13 => ?_)))))))))))))
    have S13 := S13.inn
    rw [← A12] at S13 ⊢
    refine ⟨⟨_, S13⟩, slices_ok (js := [j]) (b := false) S13 ((hA.down _).le (by decide)) (src := fun W => (jl, .list ([j].map fun (j : Nat) => vi j)) ∈ W) Itr.list (.head _) (by intro i hi; rw [List.mem_singleton.mp hi, ← tv_len]; exact hjl) (by simp) (b2.wf.has _) (b2.l _) (fun S' hsub k' => iterL S' (mR (hsub _ (.head _))) k') fun bl s14 S14 => ?_⟩
    rw [show (([j].map fun j => (σ2.vl ((σ2.it false)[j]?.getD none)).val)) = ([j].map fun j => σ2.vl ((σ2.it false)[j]?.getD none)).map DV.val from rfl] at S14
    refine ⟨⟨_, S14⟩, told_spec S14 ((hA.down _).le (by decide)) (.head _) (vals_ok b2.wf [j]) (by simp) fun ts1 l1 s15 ht1 S15 => ?_⟩
    -- the frame back to the front
    have S16 := (S15.sub (W' := objs σ2 ++ (((l1, .list (ts1.map Tv.val)) :: (ts1.flatMap Tv.objs).reverse) ++ (_ :: R))) (.append_left (.cons_cons _ (.append_left (.cons _ (.cons _ (.cons_cons _ (.cons _ (.cons _ (.refl _)))))) _)) _)).perm (List.Perm.append_left _ List.perm_middle)
    refine ⟨_, _, L, _, S16, uR .head, rfl, fun s17 S17 => ?_⟩
    refine wpAny_execs_cons (wpAny_Expr (callM (Subscript_ (nmL S17 (mR (.head _)) rfl (wpAny_Constant_str (gdr (S17.toks _) (cupD' rfl) rfl fun s18 S18 => ?_))))))
    refine mtI (f := 513) S18 (mF (i := 3) rfl) (mF (i := 4) rfl) rfl (by kernel_rfl) (df2 S18 (by kernel_rfl) (callN (nmG (v := .ref 369) S18 (by kernel_rfl) (df4 S18 (by kernel_rfl) (Subscript_ (nmL S18 (mR (.head _)) rfl (wpAny_Constant_str (gdr (S18.toks _) (cupD' rfl) rfl fun s19 S19 => ?_))))))))
    refine nmL S19 (mR (.head _)) rfl (wpAny_BinOp (nmL S19 (mR (.head _)) rfl (nmL S19 (mR (.head _)) rfl (PyProof.Rows.sub_int (nmG (v := .int 7 975) (S19.toks _) (by kernel_rfl) ⟨⟨_, S19.toks _⟩, ?_⟩)))))
    refine escalar_nx (b := false) (j := j) (S19.toks _) ((hA.down _).le (by decide)) (b2.le (by decide) (by decide)) (by lia) (by rw [v12]; lia) hjl fun σ3 t c s20 n3 v3 hjt hct S20 => ?_
    have b3 : Bd σ3 1 2 := Bd.nx (a' := 1) (r' := 0) b2 n3
    refine nmL S20 (mR (.head _)) rfl ⟨⟨_, S20⟩, ?_⟩
    refine store_nx (b := false) S20 ((hA.down _).le (by decide)) (b3.le (by decide) (by decide)) hjt hct hv (n3.ok x okx) (fun σ4 s21 n4 g1 g2 S21 => ?_) n3.A
    have b4 : Bd σ4 1 2 := Bd.nx (a' := 0) (r' := 0) b3 n4
    have A4 : σ4.A = σ2.A := n4.A.trans n3.A
    refine wpAny_execs_cons (wpAny_Return_some (wpAny_Compare1 (callN (nmG (v := .ref 616) S21 (by kernel_rfl) (df5 S21 (by kernel_rfl) (nmL S21 (mR (.head _)) rfl (Subscript_ (nmL S21 (mR (.head _)) rfl (wpAny_Constant_str (gdr (S21.toks _) (cupD' A4) rfl fun s22 S22 => ?_))))))))))
    refine nmL S22 (mR (.head _)) rfl (wpAny_Constant_int (List_ (wpAny_items_cons (nmL (S22.toks _) (mR (.head _)) rfl (wpAny_items_nil (newL (S22.toks _) fun vl s23 S23 => ?_))))))
    have S23 := S23.inn
    rw [show ([v].map er) = [x].map DV.val by rw [List.map_cons, hv]; rfl] at S23
    have e4 : σ4.tv true = σ.tv true := (g2.trans (v3 true)).trans (v12 true)
    have h4 : j + 1 ≤ (σ4.tv true).length := by rw [e4, ← hs]; lia
    refine ⟨⟨_, S23⟩, lsplice_nx (ds := [x]) (c := 1) (b := true) S23 ((hA.down _).le (by decide)) b4 (.head _) (by intro y hy; rw [List.mem_singleton.mp hy]; exact n4.ok x (n3.ok x okx)) h4 (by have := b4.wf.len true; rw [← tv_len] at this; simp; lia) (fun σ5 ts2 l2 s24 n5 f1 f2 ht2 S24 => ?_) A4⟩
    refine nmL S24 (mR (.tail _ (List.mem_append_right _ (.tail _ (.head _))))) rfl ?_
    refine eqTold S24 (Rm.u64 (n := 0) ((hA.down _).le (by decide))) (xs := ts2) (ys := ts1) (mR (.head _)) (fun p hp => mR (.tail _ (List.mem_append_left _ (by simpa using hp)))) (mR (.tail _ (List.mem_append_right _ (.tail _ (.tail _ (.head _)))))) (fun p hp => mR (.tail _ (List.mem_append_right _ (.tail _ (.tail _ (.tail _ (List.mem_append_left _ (by simpa using hp)))))))) ?_
    have hjl' : j < (σ.tv false).length := by lia
    have he : ts2.map Tv.t = ts1.map Tv.t := by
      rw [ht2, ht1, e4, ← hs]
      have q1 : (σ2.it false)[j]? = some ((σ2.it false)[j]'(by rw [← tv_len]; exact hjl)) := List.getElem?_eq_getElem _
      have q2 : (σ.tv false)[j]? = some (σ2.vl ((σ2.it false)[j]'(by rw [← tv_len]; exact hjl))).told := by
        rw [← v12]; unfold Dm.tv; rw [List.getElem?_map, q1]; rfl
      rw [List.drop_eq_getElem_cons hjl']
      simp only [List.take_succ_cons, List.take_zero, List.map_cons, List.map_nil, q1, Option.getD_some]
      rw [List.getElem?_eq_getElem hjl'] at q2
      rw [Option.some.inj q2]
    rw [decide_eq_true he]
    refine h σ5 s24 (((n12.trans n3).trans (n4.trans n5)).mono (by simp) (by decide)) ?_ (S24.sub (.append_left (by repeat (first | exact List.Sublist.refl _ | refine sApp ?_ | refine List.Sublist.cons _ ?_)) _))
    show σ5.tv false = σ5.tv true
    have f2' : σ5.tv false = σ4.tv false := f2
    rw [f2', f1, g1, e4, v3, v12, hs]
    rw [List.set_eq_take_append_cons_drop, if_pos (by rw [← hs]; exact hjl')]
    simp
end
end Mine
end
section
open PySem PySem.W PySem.Calls PyProof.Rows
set_option maxRecDepth 100000
namespace Mine
set_option linter.unusedVariables false
section
variable {w : World} {s₀ s : Shared} {W W' X R : Led} {A : Around} {E : Value → Shared → Prop} {Q : Value → Shared → Prop} {env : Env} {σ : Dm} {b : Bool}
noncomputable def rgJ (p c : Nat) : List Nat := (List.range c).map (p + ·)
theorem rgJ_vals (p c : Nat) : (rgJ p c).map (fun (j : Nat) => vi j) = rgV p c := by unfold rgJ rgV; rw [List.map_map]; rfl
theorem rgJ_told {p c : Nat} (h : p + c ≤ (σ.tv b).length) : (rgJ p c).map (fun j => (σ.vl ((σ.it b)[j]?.getD none)).told) = ((σ.tv b).drop p).take c := by
  unfold rgJ
  apply List.ext_getElem?
  intro i
  rw [List.map_map, List.getElem?_map]
  by_cases q : i < c
  · rw [List.getElem?_range q, List.getElem?_take_of_lt q, List.getElem?_drop]
    rw [tv_len] at h
    unfold Dm.tv
    rw [List.getElem?_map, List.getElem?_eq_getElem (show p + i < (σ.it b).length by lia)]
    simp only [Option.map_some, Function.comp_apply, Option.getD_some, List.getElem?_eq_getElem (show p + i < (σ.it b).length by lia)]
  · rw [List.getElem?_eq_none_iff.mpr (by simp; lia), List.getElem?_take_eq_none (by lia)]; rfl
theorem slicesR {A₀ : Ad} {rg : Addr} {p c : Nat} (S : Sp w s₀ (objs σ ++ R) s) (hA : Rm A 6) (hb : Bd σ 0 0) (hr : (rg, .raw (rgP p c)) ∈ R) (hpc : p + c ≤ (σ.tv b).length)
    (h : ∀ (ds : List DV) l s', (∀ x ∈ ds, x.ok σ) → ds.map DV.told = ((σ.tv b).drop p).take c → ds.length = c → Sp w s₀ (objs σ ++ ((l, .list (ds.map DV.val)) :: R)) s' → Q (.ref l) s') (eA₀ : σ.A = A₀ := by rfl) :
    wpAny (model pg w) A (call (.ref 400) [.ref (A₀.ar b), .ref rg]) Q E s := by
  subst eA₀
  have hpc' := hpc
  rw [tv_len] at hpc'
  have hl := hb.wf.len b
  refine slices_ok (js := rgJ p c) (src := fun W => W ≠ []) (itO := fun i => .raw (ripP p c i)) S hA (by rw [rgJ_vals]; exact Itr.range) (fun q => by rw [q] at hr; cases hr) (fun j hj => ?_) (by unfold rgJ; simp; lia) (hb.wf.has b) (hb.l b) (fun S' hsub k' => iterRg S' (mR (hsub _ hr)) (by lia) k') fun l s' S' => ?_
  · obtain ⟨i, hi, rfl⟩ := List.mem_map.mp hj
    have := List.mem_range.mp hi
    lia
  · refine h ((rgJ p c).map fun j => σ.vl ((σ.it b)[j]?.getD none)) l s' (vals_ok hb.wf _) ?_ (by unfold rgJ; simp) ?_
    · rw [List.map_map]; exact rgJ_told hpc
    · rw [List.map_map]; exact S'
noncomputable abbrev frM (A₀ : Ad) (ws : Str) (t t1 t2 t3 : Tok) (n p c : Nat) (vl al : Addr) : List (Str × Value) :=
  [(k "way", .str ws t), (k "cup", .ref A₀.cup), (k "size", .int n t1), (k "other", .ref (A₀.ar true)), (k "one", .ref (A₀.ar false)), (k "begin", .int p t2), (k "count", .int c t3), (k "values", .ref vl), (k "ahead", .ref al)]
theorem arrvals_nx {A₀ : Ad} (b : Bool) (S : Sp w s₀ (objs σ ++ R) s) (hA : Rm A 4) (hb : WF σ) (h : ∀ (ds : List DV) l s', ds.map DV.told = σ.tv b → (∀ x ∈ ds, x.ok σ) → ds.length ≤ 7 → Sp w s₀ (objs σ ++ ((l, .list (ds.map DV.val)) :: R)) s' → Q (.ref l) s') (eA₀ : σ.A = A₀ := by rfl) :
    wpAny (model pg w) A (call (.ref 395) [.ref (A₀.ar b)]) Q E s := by
  subst eA₀
  have hl := hb.len b
  refine array_values_spec S hA (hb.has b) (by lia) fun l s' S' => h ((σ.it b).map fun o => σ.vl o) l s' ?_ (fun x hx => ?_) (by rw [List.length_map]; exact hl) (by rw [List.map_map]; exact S')
  · rw [List.map_map]; rfl
  · obtain ⟨o, ho, rfl⟩ := List.mem_map.mp hx
    exact hb.okv b o ho
theorem fill_nx {A₀ : Ad} {ds : List DV} {vl : Addr} (b : Bool) (S : Sp w s₀ (objs σ ++ R) s) (hA : Rm A 10) (hb : Bd σ ds.length 0) (hl : (vl, .list (ds.map DV.val)) ∈ R) (ok : ∀ x ∈ ds, x.ok σ) (hz : ds.length ≤ 7)
    (h : ∀ σ' s', Nx σ σ' ds.length 0 → σ'.tv b = ds.map DV.told → σ'.tv (!b) = σ.tv (!b) → Sp w s₀ (objs σ' ++ R) s' → Q .none s') (eA₀ : σ.A = A₀ := by rfl) : wpAny (model pg w) A (call (.ref 390) [.ref A₀.ctr, .ref (A₀.ar b), .ref vl]) Q E s := by
  subst eA₀
  refine fill_ok S hA hl ok hz (hb.wf.live b) (hb.wf.nodupB b) (hb.z b) (hb.l b) fun cs l1 l s' hn S' => ?_
  rw [fill_eq] at S'
  have n2 := spliced_nx (b := b) (p := 0) (c := (σ.it b).length) hb.wf hn ok (by lia) (by lia)
  have n3 : Nx (σ.spliced b ds cs 0 (σ.it b).length) ((σ.spliced b ds cs 0 (σ.it b).length).setIp b l) 0 0 := by
    refine ⟨WF_setIp n2.wf, ?_, ?_, ?_, ?_, fun x hx => ?_⟩
    · cases b <;> rfl
    · cases b <;> exact Int.le_refl _
    · have e : ((σ.spliced b ds cs 0 (σ.it b).length).setIp b l).rolled = (σ.spliced b ds cs 0 (σ.it b).length).rolled := by cases b <;> rfl
      lia
    · cases b <;> exact Nat.le_refl _
    · exact ok_of hx (by cases b <;> rfl)
  refine h _ s' ((n2.trans n3).mono (by simp) (by decide)) ?_ ?_ S'
  · rw [tv_setIp, tv_spliced hb.wf hn, List.take_zero, Nat.zero_add, ← tv_len, List.drop_length]; simp
  · rw [tv_setIp]; exact tv_other hb.wf
theorem sp_turn {α : Type} {xs es : List α} {p q c : Nat} (h : q + c + p = xs.length) : (xs.reverse.take q ++ es.reverse ++ xs.reverse.drop (q + c)).reverse = xs.take p ++ es ++ xs.drop (p + c) := by
  rw [List.take_reverse, List.drop_reverse, show xs.length - q = p + c by lia, show xs.length - (q + c) = p by lia]
  simp
theorem sp_turn2 {α : Type} {xs : List α} {p q c : Nat} (h : q + c + p = xs.length) : ((xs.reverse.drop q).take c).reverse = (xs.drop p).take c := by
  rw [List.drop_reverse, List.take_reverse, show xs.length - q = p + c by lia, List.length_take, show min (p + c) xs.length - c = p by lia, List.reverse_reverse, List.drop_take, Nat.add_sub_cancel_left]
end
end Mine
end
section
open PySem PySem.W PySem.Calls PyProof.Rows
set_option maxRecDepth 100000
namespace Mine
set_option linter.unusedVariables false
set_option maxHeartbeats 4000000
section
variable {w : World} {s₀ s : Shared} {W W' X R : Led} {A : Around} {E : Value → Shared → Prop} {Q : Value → Shared → Prop} {env : Env} {σ : Dm} {b : Bool}
theorem spliced_spec {ws : Str} {c1 c2 : Bool} {t : Tok} (hw1 : (ws.cps.toList == (k "back").cps.toList) = c1) (hw2 : (ws.cps.toList == (k "steps").cps.toList) = c2) (S : Sp w s₀ (objs σ ++ R) s) (hA : Rm A 20) (hb : Bd σ 40 50) (hs : Same σ)
    (h : ∀ σ' s', Nx σ σ' 40 50 → Same σ' → Sp w s₀ (objs σ' ++ R) s' → Q (.bool true) s') : wpAny (model pg w) A (call (.ref 658) [.ref σ.A.cup, .str ws t]) Q E s := by
  refine callS [(k "way", .str ws t), (k "cup", .ref σ.A.cup)] S hA.lt rfl (by kernel_rfl) (BindsTo.of_eq rfl) (fun L s1 S1 => ?_)
  refine wpAny_execs_cons (sw3 S1 hA.2.2 (Tuple_ (wpAny_items_cons (Subscript_ (nmL S1 (mR (.head _)) rfl (wpAny_Constant_str (gdr (S1.toks _) (cupD' rfl) rfl fun s2 S2 => ?_)))))))
  refine wpAny_items_cons (Subscript_ (nmL S2 (mR (.head _)) rfl (wpAny_Constant_str (gdr (S2.toks _) (cupD' rfl) rfl fun s3 S3 => ?_))))
  refine wpAny_items_cons (callN (nmB (v := .builtin "len") S3 (by kernel_rfl) (by kernel_rfl) (bi1 (Attribute_any_ (Subscript_ (nmL S3 (mR (.head _)) rfl (wpAny_Constant_str (gdr (S3.toks _) (cupD' rfl) rfl fun s4 S4 => ?_))))))))
  refine getItemsB false S4 fun s5 S5 => lenItems false S5 (hb.l _) fun t6 s6 S6 => ?_
  refine wpAny_items_nil (newT S6 fun tp s7 S7 => ⟨_, _, tp, L, .ref (σ.A.ar false), .ref (σ.A.ar true), vi (σ.tv false).length, _, rfl, S7.inn.swap, mR (.tail _ (.head _)), rfl, fun u v r s8 hu hv hr S8 => ?_⟩)
  obtain rfl := er_ref hu
  obtain rfl := er_ref hv
  obtain ⟨t8, rfl⟩ := er_int hr
  generalize hn : (σ.tv false).length = n at S8
  have hn7 : n ≤ 7 := by have := hb.wf.len false; rw [← hn, tv_len]; exact this
  -- begin, count
  refine wpAny_execs_cons (asgL S8 (callN (nmG (v := .ref 585) S8 (by kernel_rfl) (df2 S8 (by kernel_rfl) (nmL S8 (mR (.head _)) rfl (wpAny_BinOp (nmL S8 (mR (.head _)) rfl (wpAny_Constant_int (PyProof.Rows.add_int ⟨⟨_, (S8.toks _).toks _⟩, ?_⟩)))))))))
  refine roll_nx ((S8.toks _).toks _) ((hA.down _).le (by decide)) (by lia) (hb.le (by decide) (by decide)) fun σ1 i t9 s9 n1 v1 i0 i1 S9 => ⟨_, _, L, _, S9, uR .head, rfl, fun s10 S10 => ?_⟩
  obtain ⟨p, rfl⟩ := Int.eq_ofNat_of_zero_le i0
  have b1 : Bd σ1 40 49 := Bd.nx (a' := 0) (r' := 1) hb n1
  have A1 := n1.A
  refine wpAny_execs_cons (asgL S10 (callN (nmG (v := .ref 585) S10 (by kernel_rfl) (df2 S10 (by kernel_rfl) (nmL S10 (mR (.head _)) rfl (wpAny_BinOp (wpAny_BinOp (nmL S10 (mR (.head _)) rfl (nmL S10 (mR (.head _)) rfl (PyProof.Rows.sub_int (wpAny_Constant_int (PyProof.Rows.add_int ⟨⟨_, ((S10.toks _).toks _).toks _⟩, ?_⟩))))))))))) )
  refine roll_nx (((S10.toks _).toks _).toks _) ((hA.down _).le (by decide)) (by lia) (b1.le (by decide) (by decide)) (fun σ2 i t11 s11 n2 v2 i2 i3 S11 => ⟨_, _, L, _, S11, uR .head, rfl, fun s12 S12 => ?_⟩) A1
  obtain ⟨c, rfl⟩ := Int.eq_ofNat_of_zero_le i2
  have b2 : Bd σ2 40 48 := Bd.nx (a' := 0) (r' := 1) b1 n2
  have A2 := n2.A.trans A1
  have hpc : p + c ≤ n := by lia
  -- values
  refine wpAny_execs_cons (asgL S12 (slR (s₀ := s₀) (callN (nmG (v := .ref 597) S12 (by kernel_rfl) (df2 S12 (by kernel_rfl) (nmL S12 (mR (.head _)) rfl (wpAny_Constant_int ⟨⟨_, S12.toks _⟩, ?_⟩)))))))
  refine values_nx (n := 3) (S12.toks _) ((hA.down _).le (by decide)) (by decide) (b2.le (by decide) (by decide)) (fun σ3 ds l s13 n3 v3 hd hok S13 => ?_) A2
  have b3 : Bd σ3 40 18 := Bd.nx (a' := 0) (r' := 30) b2 n3
  have A3 := n3.A.trans A2
  have v13 : ∀ b, σ3.tv b = σ.tv b := fun b => (v3 b).trans ((v2 b).trans (v1 b))
  have n13 := (n1.trans n2).trans n3
  refine evalPart_none_step (evalPart_some_step (wpAny_BinOp (wpAny_BinOp (nmG (v := .int 7 975) S13 (by kernel_rfl) (nmL S13 (mR (.tail _ (.head _))) rfl (PyProof.Rows.add_int (nmL (S13.toks _) (mR (.tail _ (.head _))) rfl (PyProof.Rows.sub_int ?_))))))))
  have e7 : (7 : Int) + c - n = ((7 + c - n : Nat) : Int) := by lia
  rw [e7]
  refine ⟨_, l, ds.map DV.val, (ds.take (7 + c - n)).map DV.val, none, some ((7 + c - n : Nat) : Int), rfl, (S13.toks _).toks _, mR (.head _), by rw [List.length_map]; lia, .none, .int _ _, by rw [List.map_take]; exact pkUpto, fun vl s14 S14 => ?_⟩
  generalize hds : ds.take (7 + c - n) = es at S14
  have he3 : es.length ≤ 3 := by rw [← hds, List.length_take]; lia
  have hez : n - c + es.length ≤ 7 := by rw [← hds, List.length_take]; lia
  have heok : ∀ x ∈ es, x.ok σ3 := fun x hx => hok x (by rw [← hds] at hx; exact List.mem_of_mem_take hx)
  refine ⟨_, _, L, _, S14, .tail (uR (.tail .head)), rfl, fun s15 S15 => ?_⟩
  have S15 := (S15.inn.sub (W' := objs σ3 ++ ([(vl, .list (es.map DV.val))] ++ (_ :: R))) (.append_left (.cons_cons _ (.cons _ (.cons_cons _ (.cons _ (.refl _))))) _)).perm (List.Perm.append_left _ List.perm_middle)
  -- ahead
  refine wpAny_execs_cons (asgL S15 (callN (nmG (v := .ref 602) S15 (by kernel_rfl) (df1 S15 (by kernel_rfl) (callN (nmG (v := .ref 400) S15 (by kernel_rfl) (df2 S15 (by kernel_rfl) (nmL S15 (mR (.head _)) rfl (callN (nmB (v := .type "range") S15 (by kernel_rfl) (by kernel_rfl) (ty2 (nmL S15 (mR (.head _)) rfl (wpAny_BinOp (nmL S15 (mR (.head _)) rfl (nmL S15 (mR (.head _)) rfl (PyProof.Rows.add_int ?_))))))))))))))))
  refine mkRange2 (S15.toks _) rfl (by push_cast; rfl) fun rg s16 S16 => ?_
  have S16 := S16.inn
  refine ⟨⟨_, S16⟩, slicesR (b := false) S16 ((hA.down _).le (by decide)) (b3.le (by decide) (by decide)) (.head _) (by rw [v13, hn]; exact hpc) (fun ks kl s17 kok kt kn S17 => ?_) A3⟩
  refine ⟨⟨_, S17⟩, told_spec S17 ((hA.down _).le (by decide)) (.head _) kok (by lia) fun ts al s18 hts S18 => ?_⟩
  rw [kt, v13] at hts
  have S18 := (S18.sub (W' := objs σ3 ++ (((al, .list (ts.map Tv.val)) :: (ts.flatMap Tv.objs).reverse) ++ (_ :: (vl, .list (es.map DV.val)) :: R))) (.append_left (.cons_cons _ (.append_left (.cons _ (.cons _ (.refl _))) _)) _)).perm (List.Perm.append_left _ List.perm_middle)
  refine ⟨_, _, L, _, S18, uR .head, rfl, fun s19 S19 => ?_⟩
  change Sp w s₀ (objs σ3 ++ ((L, .ns (frM σ.A ws t t8 t9 t11 n p c vl al)) :: (((al, .list (ts.map Tv.val)) :: (ts.flatMap Tv.objs).reverse) ++ (vl, .list (es.map DV.val)) :: R))) s19 at S19
  have mal : (al, SO.list (ts.map Tv.val)) ∈ ((al, .list (ts.map Tv.val)) :: (ts.flatMap Tv.objs).reverse) ++ (vl, .list (es.map DV.val)) :: R := .head _
  have mts : ∀ p ∈ ts.flatMap Tv.objs, p ∈ ((al, .list (ts.map Tv.val)) :: (ts.flatMap Tv.objs).reverse) ++ (vl, .list (es.map DV.val)) :: R := fun p hp => .tail _ (List.mem_append_left _ (List.mem_reverse.mpr hp))
  have mvl : (vl, SO.list (es.map DV.val)) ∈ ((al, .list (ts.map Tv.val)) :: (ts.flatMap Tv.objs).reverse) ++ (vl, .list (es.map DV.val)) :: R := List.mem_append_right _ (.head _)
  have hRT : R.Sublist (((al, .list (ts.map Tv.val)) :: (ts.flatMap Tv.objs).reverse) ++ (vl, .list (es.map DV.val)) :: R) := sApp (.cons _ (.refl _))
  generalize ((al, .list (ts.map Tv.val)) :: (ts.flatMap Tv.objs).reverse) ++ (vl, .list (es.map DV.val)) :: R = T at S19 mal mts mvl hRT
  have hu : (A.deeper (envOf (Str.ofString "_law_spliced") default L 658 (.ref 657))).units + 64 < cLine := Rm.u64 (n := 0) ((hA.down _).le (by decide))
  have s3 : σ3.tv false = σ3.tv true := by rw [v13, v13, hs]
  have l3 : (σ3.tv true).length = n := by rw [v13, ← hs, hn]
  have l3' : (σ3.tv false).length = n := by rw [v13, hn]
  refine wpAny_execs_cons (wpAny_If (wpAny_isTrue_Compare1 (nmL S19 (mR (.head _)) rfl (wpAny_Constant_str (eqS hw1 (wpAny_truthy_bool ?_))))))
  have S20 := S19.toks (s19.toks + 1)
  cases c1 with
  | true =>
    rw [if_pos rfl]
    refine wpAny_execs_cons (wpAny_If (wpAny_isTrue_Compare1 (callN (nmG (v := .ref 616) S20 (by kernel_rfl) (df5 S20 (by kernel_rfl) (nmL S20 (mR (.head _)) rfl (nmL S20 (mR (.head _)) rfl (nmL S20 (mR (.head _)) rfl (nmL S20 (mR (.head _)) rfl (nmL S20 (mR (.head _)) rfl ⟨⟨_, S20⟩, ?_⟩))))))))))
    refine lsplice_nx (ds := es) (b := true) S20 ((hA.down _).le (by decide)) (b3.le (by lia) (by decide)) (.tail _ mvl) heok (by rw [l3]; exact hpc) (by rw [l3]; exact hez) (fun σ4 us ul s21 n4 f1 f2 ht4 S21 => ?_) A3
    have b4 : Bd σ4 30 10 := Bd.nx (a' := 3) (r' := 2) (b3.le (by lia) (by decide)) (n4.mono he3 (by decide))
    have A4 := n4.A.trans A3
    refine nmL S21 (mR (.tail _ (List.mem_append_right _ (.head _)))) rfl ?_
    refine neTold S21 hu (xs := us) (ys := ts) (mR (.head _)) (fun p hp => mR (.tail _ (List.mem_append_left _ (by simpa using hp)))) (mR (.tail _ (List.mem_append_right _ (.tail _ mal)))) (fun p hp => mR (.tail _ (List.mem_append_right _ (.tail _ (mts p hp))))) (wpAny_truthy_bool ?_)
    rw [decide_eq_true (show us.map Tv.t = ts.map Tv.t by rw [ht4, hts, v13, hs])]
    refine wpAny_execs_nil ?_
    have S22 := (S21.sub (W' := objs σ4 ++ (_ :: T)) (.append_left (.cons _ (sApp (.refl _))) _))
    -- taken
    refine wpAny_execs_cons (asgL S22 (callN (nmG (v := .ref 400) S22 (by kernel_rfl) (df2 S22 (by kernel_rfl) (nmL S22 (mR (.head _)) rfl (callN (nmB (v := .type "range") S22 (by kernel_rfl) (by kernel_rfl) (ty2 (nmL S22 (mR (.head _)) rfl (wpAny_BinOp (nmL S22 (mR (.head _)) rfl (nmL S22 (mR (.head _)) rfl (PyProof.Rows.add_int ?_)))))))))))))
    refine mkRange2 (S22.toks _) rfl (by push_cast; rfl) fun rg2 s23 S23 => ?_
    have S23 := S23.inn
    have f2' : σ4.tv false = σ3.tv false := f2
    refine ⟨⟨_, S23⟩, slicesR (b := false) S23 ((hA.down _).le (by decide)) (b4.le (by decide) (by decide)) (.head _) (by rw [f2', l3']; exact hpc) (fun js jl s24 jok jt jn S24 => ?_) A4⟩
    refine ⟨_, _, L, _, S24, uR (.tail (.tail .head)), rfl, fun s25 S25 => ?_⟩
    have hlen4 : (σ4.tv true).length = n - c + es.length := by rw [f1]; simp only [List.length_append, List.length_take, List.length_drop, List.length_map, l3]; lia
    refine wpAny_execs_cons (wpAny_Return_some (wpAny_Compare1 (callN (nmG (v := .ref 616) S25 (by kernel_rfl) (df5 S25 (by kernel_rfl) (nmL S25 (mR (.tail _ (.tail _ (.head _)))) rfl (nmL S25 (mR (.tail _ (.tail _ (.head _)))) rfl (nmL S25 (mR (.tail _ (.tail _ (.head _)))) rfl (callN (nmB (v := .builtin "len") S25 (by kernel_rfl) (by kernel_rfl) (bi1 (nmL S25 (mR (.tail _ (.tail _ (.head _)))) rfl ?_))))))))))))
    refine lenL S25 (mR (.tail _ (.tail _ (.tail _ mvl)))) (fun t26 s26 S26 => nmL S26 (mR (.tail _ (.tail _ (.head _)))) rfl ⟨⟨_, S26⟩, ?_⟩) (by rw [List.length_map]; lia)
    rw [List.length_map]
    refine lsplice_nx (ds := js) (b := true) (c := es.length) S26 ((hA.down _).le (by decide)) (b4.le (by lia) (by decide)) (.head _) jok (by rw [hlen4]; lia) (by rw [hlen4, jn]; lia) (fun σ5 xs xl s27 n5 g1 g2 ht5 S27 => ?_) A4
    refine callN (nmG (v := .ref 602) S27 (by kernel_rfl) (df1 S27 (by kernel_rfl) (nmL S27 (mR (.tail _ (List.mem_append_right _ (.tail _ (.tail _ (.head _)))))) rfl ⟨⟨_, S27⟩, ?_⟩)))
    refine told_spec S27 ((hA.down _).le (by decide)) (.tail _ (List.mem_append_right _ (.tail _ (.tail _ (.tail _ mvl))))) (fun x hx => n5.ok x (n4.ok x (heok x hx))) (by lia) fun ys yl s28 ht6 S28 => ?_
    refine eqTold S28 hu (xs := xs) (ys := ys) (mR (.tail _ (List.mem_append_right _ (.head _)))) (fun p hp => mR (.tail _ (List.mem_append_right _ (.tail _ (List.mem_append_left _ (by simpa using hp)))))) (mR (.head _)) (fun p hp => mR (.tail _ (List.mem_append_left _ (by simpa using hp)))) ?_
    have e1 : (σ3.tv true).take p = ((σ3.tv true).take p) := rfl
    have htk : ((σ3.tv true).take p).length = p := by rw [List.length_take, l3]; lia
    have he : xs.map Tv.t = ys.map Tv.t := by
      rw [ht5, ht6, f1, List.append_assoc, List.drop_append_of_le_length (by rw [htk]; exact Nat.le_refl _), List.drop_of_length_le (by rw [htk]; exact Nat.le_refl _), List.nil_append, List.take_append_of_le_length (by rw [List.length_map]; exact Nat.le_refl _), List.take_of_length_le (by rw [List.length_map]; exact Nat.le_refl _)]
    rw [decide_eq_true he]
    refine h σ5 s28 ((n13.trans (n4.trans n5)).mono (by lia) (by decide)) ?_ (S28.sub (.append_left (by
      refine sApp (x := _ :: _) ?_
      refine .cons _ (sApp (.cons _ (.cons _ (.cons _ hRT)))))  _))
    show σ5.tv false = σ5.tv true
    have g2' : σ5.tv false = σ4.tv false := g2
    have hh := sp_back (es := es.map DV.told) (p := p) (c := c) (xs := σ3.tv true) (by lia)
    rw [List.length_map] at hh
    rw [g2', f2', g1, jt, f1, f2', s3]
    exact hh.symm
  | false =>
    rw [if_neg Bool.false_ne_true]
    refine wpAny_execs_nil (wpAny_execs_cons (wpAny_If (wpAny_isTrue_Compare1 (callN (nmG (v := .ref 616) S20 (by kernel_rfl) (df5 S20 (by kernel_rfl) (nmL S20 (mR (.head _)) rfl (nmL S20 (mR (.head _)) rfl (nmL S20 (mR (.head _)) rfl (nmL S20 (mR (.head _)) rfl (nmL S20 (mR (.head _)) rfl ⟨⟨_, S20⟩, ?_⟩)))))))))))
    refine lsplice_nx (ds := es) (b := false) S20 ((hA.down _).le (by decide)) (b3.le (by lia) (by decide)) (.tail _ mvl) heok (by rw [l3']; exact hpc) (by rw [l3']; exact hez) (fun σ4 us ul s21 n4 f1 f2 ht4 S21 => ?_) A3
    have f2' : σ4.tv true = σ3.tv true := f2
    have b4 : Bd σ4 30 10 := Bd.nx (a' := 3) (r' := 2) (b3.le (by lia) (by decide)) (n4.mono he3 (by decide))
    have A4 := n4.A.trans A3
    refine nmL S21 (mR (.tail _ (List.mem_append_right _ (.head _)))) rfl ?_
    refine neTold S21 hu (xs := us) (ys := ts) (mR (.head _)) (fun p hp => mR (.tail _ (List.mem_append_left _ (by simpa using hp)))) (mR (.tail _ (List.mem_append_right _ (.tail _ mal)))) (fun p hp => mR (.tail _ (List.mem_append_right _ (.tail _ (mts p hp))))) (wpAny_truthy_bool ?_)
    rw [decide_eq_true (show us.map Tv.t = ts.map Tv.t by rw [ht4, hts, v13])]
    refine wpAny_execs_nil ?_
    have S22 := (S21.sub (W' := objs σ4 ++ (_ :: T)) (.append_left (.cons _ (sApp (.refl _))) _))
    refine wpAny_execs_cons (wpAny_If (wpAny_isTrue_Compare1 (nmL S22 (mR (.head _)) rfl (wpAny_Constant_str (eqS hw2 (wpAny_truthy_bool ?_))))))
    have S23 := S22.toks (s21.toks + 1)
    cases c2 with
    | true =>
      rw [if_pos rfl]
      refine wpAny_execs_cons (wpAny_Return_some (BoolOp_and (wpAny_Compare1 (callN (nmG (v := .ref 616) S23 (by kernel_rfl) (df5 S23 (by kernel_rfl) (nmL S23 (mR (.head _)) rfl (nmL S23 (mR (.head _)) rfl (nmL S23 (mR (.head _)) rfl (nmL S23 (mR (.head _)) rfl (List_ (wpAny_items_nil (newL S23 fun nl s24 S24 => ?_)))))))))))))
      have S24 := S24.inn
      refine ⟨⟨_, S24⟩, lsplice_nx (ds := []) (b := true) S24 ((hA.down _).le (by decide)) (b4.le (by decide) (by decide)) (.head _) (by simp) (by rw [f2', l3]; exact hpc) (by rw [f2', l3]; simp; lia) (fun σ5 xs xl s25 n5 g1 g2 ht5 S25 => ?_) A4⟩
      have b5 : Bd σ5 30 8 := Bd.nx (a' := 0) (r' := 2) b4 n5
      have A5 := n5.A.trans A4
      have g2' : σ5.tv false = σ4.tv false := g2
      refine nmL S25 (mR (.tail _ (List.mem_append_right _ (.tail _ (.head _))))) rfl ?_
      refine eqTold S25 hu (xs := xs) (ys := ts) (mR (.head _)) (fun p hp => mR (.tail _ (List.mem_append_left _ (by simpa using hp)))) (mR (.tail _ (List.mem_append_right _ (.tail _ (.tail _ mal))))) (fun p hp => mR (.tail _ (List.mem_append_right _ (.tail _ (.tail _ (mts p hp)))))) ?_
      rw [decide_eq_true (show xs.map Tv.t = ts.map Tv.t by rw [ht5, hts, f2', v13, hs])]
      refine wpAny_truthy_bool ?_
      rw [if_pos rfl]
      have S26 := (S25.sub (W' := objs σ5 ++ (_ :: T)) (.append_left (.cons _ (sApp (.cons _ (.refl _)))) _))
      have hl5 : (σ5.tv true).length = n - c := by rw [g1, f2']; simp only [List.length_append, List.length_take, List.length_drop, List.map_nil, List.length_nil, l3]; lia
      refine BoolOp_one (wpAny_Compare1 (callN (nmG (v := .ref 616) S26 (by kernel_rfl) (df5 S26 (by kernel_rfl) (nmL S26 (mR (.head _)) rfl (nmL S26 (mR (.head _)) rfl (nmL S26 (mR (.head _)) rfl (wpAny_Constant_int (nmL (S26.toks _) (mR (.head _)) rfl ⟨⟨_, S26.toks _⟩, ?_⟩)))))))))
      refine lsplice_nx (ds := es) (b := true) (c := 0) (S26.toks _) ((hA.down _).le (by decide)) (b5.le (by lia) (by decide)) (.tail _ mvl) (fun x hx => n5.ok x (n4.ok x (heok x hx))) (by rw [hl5]; lia) (by rw [hl5]; lia) (fun σ6 ys yl s27 n6 k1 k2 ht6 S27 => ?_) A5
      have k2' : σ6.tv false = σ5.tv false := k2
      refine List_ (wpAny_items_nil (newL S27 fun zl s28 S28 => ?_))
      have S28 := S28.inn
      refine eqTold S28 hu (xs := ys) (ys := []) (mR (.tail _ (.head _))) (fun p hp => mR (.tail _ (.tail _ (List.mem_append_left _ (by simpa using hp))))) (mR (.head _)) (fun p hp => by cases hp) ?_
      rw [decide_eq_true (show ys.map Tv.t = ([] : List Tv).map Tv.t by rw [ht6, List.take_zero]; rfl)]
      refine h σ6 s28 ((n13.trans (n4.trans (n5.trans n6))).mono (by simp; lia) (by decide)) ?_ (S28.sub (.append_left (.cons _ (.cons _ (sApp (.cons _ hRT)))) _))
      show σ6.tv false = σ6.tv true
      have ht := sp_take (es := ([] : List TV)) (p := p) (c := c) (xs := σ3.tv true) (by lia)
      have hd := sp_drop (es := ([] : List TV)) (p := p) (c := c) (xs := σ3.tv true) (by lia)
      rw [k2', g2', f1, k1, g1, f2', s3, List.map_nil, Nat.add_zero, ht]
      rw [List.length_nil, Nat.add_zero] at hd
      rw [hd]
    | false =>
      rw [if_neg Bool.false_ne_true]
      refine wpAny_execs_nil ?_
      have l4 : (σ4.tv true).length = n := by rw [f2', l3]
      refine wpAny_execs_cons (wpAny_Expr (callN (nmG (v := .ref 390) S23 (by kernel_rfl) (df3 S23 (by kernel_rfl) (Subscript_ (nmL S23 (mR (.head _)) rfl (wpAny_Constant_str (gdr (S23.toks _) (cupD' A4) rfl fun s24 S24 => ?_))))))))
      refine nmL S24 (mR (.head _)) rfl (callN (nmG (v := .ref 407) S24 (by kernel_rfl) (df1 S24 (by kernel_rfl) (callN (nmG (v := .ref 395) S24 (by kernel_rfl) (df1 S24 (by kernel_rfl) (nmL S24 (mR (.head _)) rfl ⟨⟨_, S24⟩, ?_⟩)))))))
      refine arrvals_nx true S24 ((hA.down _).le (by decide)) b4.wf (fun d1 a1 s25 hd1 ok1 ln1 S25 => ⟨⟨_, S25⟩, reversed_ok S25 ((hA.down _).le (by decide)) (.head _) (by rw [List.length_map]; lia) fun a2 s26 S26 => ⟨⟨_, S26⟩, ?_⟩⟩) A4
      rw [← List.map_reverse] at S26
      refine fill_nx (ds := d1.reverse) true S26 ((hA.down _).le (by decide)) (b4.le (by rw [List.length_reverse]; lia) (by decide)) (.head _) (fun x hx => ok1 x (List.mem_reverse.mp hx)) (by rw [List.length_reverse]; exact ln1) (fun σ5 s27 n5 g1 g2 S27 => ?_) A4
      have b5 : Bd σ5 23 10 := Bd.nx (a' := 7) (r' := 0) b4 (n5.mono (by rw [List.length_reverse]; exact ln1) (by decide))
      have A5 := n5.A.trans A4
      have g1' : σ5.tv true = (σ3.tv true).reverse := by rw [g1, List.map_reverse, hd1, f2']
      have g2' : σ5.tv false = σ4.tv false := g2
      have S28 := S27.sub (W' := objs σ5 ++ (_ :: T)) (.append_left (.cons _ (.cons _ (.refl _))) _)
      obtain ⟨q, hq⟩ : ∃ q : Nat, q + c + p = n := ⟨n - p - c, by lia⟩
      refine wpAny_execs_cons (asgL S28 (callN (nmG (v := .ref 616) S28 (by kernel_rfl) (df5 S28 (by kernel_rfl) (nmL S28 (mR (.head _)) rfl (nmL S28 (mR (.head _)) rfl (wpAny_BinOp (wpAny_BinOp (nmL S28 (mR (.head _)) rfl (nmL S28 (mR (.head _)) rfl (PyProof.Rows.sub_int (nmL (S28.toks _) (mR (.head _)) rfl (PyProof.Rows.sub_int ?_)))))))))))))
      have S29 := (S28.toks (s27.toks + 1)).toks (s27.toks + 1 + 1)
      rw [show (n : Int) - p - c = (q : Int) by lia]
      refine nmL S29 (mR (.head _)) rfl (callN (nmG (v := .ref 407) S29 (by kernel_rfl) (df1 S29 (by kernel_rfl) (nmL S29 (mR (.head _)) rfl ⟨⟨_, S29⟩, ?_⟩))))
      refine reversed_ok S29 ((hA.down _).le (by decide)) (.tail _ mvl) (by rw [List.length_map]; lia) fun a3 s30 S30 => ⟨⟨_, S30⟩, ?_⟩
      rw [← List.map_reverse] at S30
      have l5 : (σ5.tv true).length = n := by rw [g1', List.length_reverse, l3]
      refine lsplice_nx (ds := es.reverse) (b := true) (p := q) (c := c) S30 ((hA.down _).le (by decide)) (b5.le (by rw [List.length_reverse]; lia) (by decide)) (.head _) (fun x hx => n5.ok x (n4.ok x (heok x (List.mem_reverse.mp hx)))) (by rw [l5]; lia) (by rw [l5, List.length_reverse]; exact hez) (fun σ6 ks kl s31 n6 k1 k2 ht6 S31 => ?_) A5
      have b6 : Bd σ6 20 8 := Bd.nx (a' := 3) (r' := 2) b5 (n6.mono (by rw [List.length_reverse]; exact he3) (by decide))
      have A6 := n6.A.trans A5
      have k2' : σ6.tv false = σ5.tv false := k2
      refine ⟨_, _, L, _, S31, uR (.tail (Upd.right (.tail .head))), rfl, fun s32 S32 => ?_⟩
      have S32 := (S32.sub (W' := objs σ6 ++ (((kl, .list (ks.map Tv.val)) :: (ks.flatMap Tv.objs).reverse) ++ (_ :: T))) (.append_left (.cons_cons _ (.append_left (.cons _ (.refl _)) _)) _)).perm (List.Perm.append_left _ List.perm_middle)
      refine wpAny_execs_cons (wpAny_Expr (callN (nmG (v := .ref 390) S32 (by kernel_rfl) (df3 S32 (by kernel_rfl) (Subscript_ (nmL S32 (mR (.head _)) rfl (wpAny_Constant_str (gdr (S32.toks _) (cupD' A6) rfl fun s33 S33 => ?_))))))))
      refine nmL S33 (mR (.head _)) rfl (callN (nmG (v := .ref 407) S33 (by kernel_rfl) (df1 S33 (by kernel_rfl) (callN (nmG (v := .ref 395) S33 (by kernel_rfl) (df1 S33 (by kernel_rfl) (nmL S33 (mR (.head _)) rfl ⟨⟨_, S33⟩, ?_⟩)))))))
      refine arrvals_nx true S33 ((hA.down _).le (by decide)) b6.wf (fun d2 a4 s34 hd2 ok2 ln2 S34 => ⟨⟨_, S34⟩, reversed_ok S34 ((hA.down _).le (by decide)) (.head _) (by rw [List.length_map]; lia) fun a5 s35 S35 => ⟨⟨_, S35⟩, ?_⟩⟩) A6
      rw [← List.map_reverse] at S35
      refine fill_nx (ds := d2.reverse) true S35 ((hA.down _).le (by decide)) (b6.le (by rw [List.length_reverse]; lia) (by decide)) (.head _) (fun x hx => ok2 x (List.mem_reverse.mp hx)) (by rw [List.length_reverse]; exact ln2) (fun σ7 s36 n7 m1 m2 S36 => ?_) A6
      have m2' : σ7.tv false = σ6.tv false := m2
      have S37 := S36.sub (W' := objs σ7 ++ (_ :: ((kl, .list (ks.map Tv.val)) :: (ks.flatMap Tv.objs).reverse) ++ T)) (.append_left (.cons _ (.cons _ (.refl _))) _)
      refine wpAny_execs_cons (wpAny_Return_some (wpAny_Compare1 (callN (nmG (v := .ref 407) S37 (by kernel_rfl) (df1 S37 (by kernel_rfl) (nmL S37 (mR (.head _)) rfl ⟨⟨_, S37⟩, ?_⟩))))))
      have hkl : ks.length ≤ 7 := by
        have := congrArg List.length ht6
        rw [List.length_map, List.length_take, List.length_drop] at this
        lia
      refine reversed_ok S37 ((hA.down _).le (by decide)) (.tail _ (.head _)) (by rw [List.length_map]; lia) fun a6 s38 S38 => nmL S38 (mR (.tail _ (.head _))) rfl ?_
      rw [← List.map_reverse] at S38
      refine eqTold S38 hu (xs := ks.reverse) (ys := ts) (mR (.head _)) (fun z hz => mR (.tail _ (.tail _ (.tail _ (List.mem_append_left _ (List.mem_reverse.mpr ?_)))))) (mR (.tail _ (.tail _ (.tail _ (List.mem_append_right _ mal))))) (fun p hp => mR (.tail _ (.tail _ (.tail _ (List.mem_append_right _ (mts p hp)))))) ?_
      · obtain ⟨y, hy, hz⟩ := List.mem_flatMap.mp hz
        exact List.mem_flatMap.mpr ⟨y, List.mem_reverse.mp hy, hz⟩
      rw [decide_eq_true (show ks.reverse.map Tv.t = ts.map Tv.t by rw [List.map_reverse, ht6, hts, g1', sp_turn2 (p := p) (by rw [l3]; exact hq), v13, hs])]
      refine h σ7 s38 ((n13.trans (n4.trans (n5.trans (n6.trans n7)))).mono (by simp; lia) (by decide)) ?_ (S38.sub (.append_left (.cons _ (.cons _ (.cons _ (sApp hRT)))) _))
      show σ7.tv false = σ7.tv true
      rw [m2', k2', g2', f1, m1, List.map_reverse, hd2, k1, g1', List.map_reverse, sp_turn (p := p) (by rw [l3]; exact hq), s3]
end
end Mine
end
section
open PySem PySem.W PySem.Calls PyProof.Rows
set_option maxRecDepth 100000
namespace Mine
set_option linter.unusedVariables false
section
variable {w : World} {s₀ s : Shared} {W W' X R : Led} {A : Around} {E : Value → Shared → Prop} {env : Env} {σ : Dm} {b : Bool}
noncomputable def FrOn (l : List Env) (W : Led) : Prop := ∀ env ∈ l, env.scope.kind = .function ∧ ∃ L m, env.frame = some L ∧ (L, .ns m) ∈ W
theorem FrOn.cons {l : List Env} {L : Addr} {m : List (Str × Value)} (h : FrOn l W) (hk : env.scope.kind = .function) (hf : env.frame = some L) (hm : (L, .ns m) ∈ W) : FrOn (env :: l) W := fun e he => by
  rcases List.mem_cons.mp he with rfl | he
  · exact ⟨hk, L, m, hf, hm⟩
  · exact h e he
theorem FrOn.sub {l : List Env} (h : FrOn l W) (hs : ∀ p ∈ W, (∃ m, p.2 = .ns m) → ∃ m, (p.1, SO.ns m) ∈ W') : FrOn l W' := fun e he => by
  obtain ⟨hk, L, m, hf, hm⟩ := h e he
  obtain ⟨m', h'⟩ := hs _ hm ⟨m, rfl⟩
  exact ⟨hk, L, m', hf, h'⟩
structure Fly (s₀ : Shared) (W : Led) (e : Addr) (s : Shared) : Prop where
  body : ∃ oe vs T oT ts, s.heap.get? e = some oe ∧ oe.cls = .ref 266 ∧ oe.data = .fields vs ∧ vs[1]? = some (.ref T) ∧ T ≠ e ∧ s.heap.get? T = some oT ∧ oT.data = .fields ts ∧ ts[3]? = some .none ∧ s₀.heap.get? T = none ∧ ∀ p ∈ W, p.1 ≠ T
  e0 : s₀.heap.get? e = none
  eW : ∀ p ∈ W, p.1 ≠ e
theorem Fly.sub {e : Addr} (F : Fly s₀ W e s) (h : ∀ p ∈ W', ∃ q ∈ W, q.1 = p.1) : Fly s₀ W' e s := by
  obtain ⟨⟨oe, vs, T, oT, ts, a1, a2, a3, a4, a5, a6, a7, a8, a9, a10⟩, b, c⟩ := F
  refine ⟨⟨oe, vs, T, oT, ts, a1, a2, a3, a4, a5, a6, a7, a8, a9, fun p hp => ?_⟩, b, fun p hp => ?_⟩
  · obtain ⟨q, hq, e⟩ := h p hp; rw [← e]; exact a10 q hq
  · obtain ⟨q, hq, e⟩ := h p hp; rw [← e]; exact c q hq
theorem left_sp {l : List Env} {e : Addr} {as : List Addr} {h' : Heap} (S : Sp w s₀ W s) (hF : FrOn l W) (he0 : s₀.heap.get? e = none) (heW : ∀ p ∈ W, p.1 ≠ e) (has : ∀ a ∈ as, s₀.heap.get? a = none ∧ ∀ p ∈ W, p.1 ≠ a)
    (hne : W ≠ []) (hL : Heap.Left (hideAll s.heap (e :: as ++ l.filterMap (·.frame))) l e (.ref 266) s.heap h') : Sp w s₀ W { s with heap := h' } ∧ Fly s₀ W e { s with heap := h' } := by
  obtain ⟨k1, k2, ⟨oe, vs, T, oT, ts, t1, t2, t3, t4, t5, t6, t7, t8, t9⟩, k4⟩ := hL
  have frameOf : ∀ a, a ∈ l.filterMap (·.frame) → ∃ m, (a, SO.ns m) ∈ W := fun a ha => by
    obtain ⟨env, he, hf⟩ := List.mem_filterMap.mp ha
    obtain ⟨_, L, m, hf', hm⟩ := hF env he
    rw [hf] at hf'
    exact ⟨m, Option.some.inj hf' ▸ hm⟩
  have s0in : ∀ a o, s₀.heap.get? a = some o → a ∉ e :: as ++ l.filterMap (·.frame) := fun a o ho hm => by
    rcases List.mem_append.mp hm with hm | hm
    · rcases List.mem_cons.mp hm with rfl | hm
      · rw [he0] at ho; cases ho
      · rw [(has a hm).1] at ho; cases ho
    · obtain ⟨m, hm⟩ := frameOf a hm
      exact Nat.lt_irrefl _ (Nat.lt_of_lt_of_le (Heap.lt_size ho) (S.out _ hm))
  have keepW : ∀ p ∈ W, p.1 ∉ l.filterMap (·.frame) → ∀ o, s.heap.get? p.1 = some o → h'.get? p.1 = some o := fun p hp hn o ho => by
    refine k1 _ _ (hideAll_get _ ho fun hm => ?_)
    rcases List.mem_append.mp hm with hm | hm
    · rcases List.mem_cons.mp hm with q | hm
      · exact heW p hp q
      · exact (has _ hm).2 p hp rfl
    · exact hn hm
  have uniq : ∀ {a : Addr} {x y : SO}, (a, x) ∈ W → (a, y) ∈ W → x = y := fun ha hb => by
    obtain ⟨i, hi⟩ := List.getElem?_of_mem ha
    obtain ⟨j, hj⟩ := List.getElem?_of_mem hb
    have := nodup_inj S.nodup hi hj
    subst this
    rw [hi] at hj; cases hj; rfl
  have hat : ∀ p ∈ W, ∃ o, h'.get? p.1 = some o ∧ p.2.Is w.params o ∧ (p.1 ∈ l.filterMap (·.frame) → ∃ es ep, o.data = .dict es ep) := fun p hp => by
    obtain ⟨o, ho, hx⟩ := S.at_ p hp
    by_cases q : p.1 ∈ l.filterMap (·.frame)
    · obtain ⟨m, hm⟩ := frameOf _ q
      obtain ⟨a, x⟩ := p
      obtain rfl := uniq hm hp
      obtain ⟨es, ep, h1, h2, h3⟩ := hx
      obtain ⟨sl, h4⟩ := k4 a o ho fun vs q => by rw [h1] at q; cases q
      exact ⟨_, h4, ⟨es, ep, h1, h2, h3⟩, fun _ => ⟨es, ep, h1⟩⟩
    · exact ⟨o, keepW p hp q o ho, hx, fun z => absurd z q⟩
  refine ⟨⟨S.gd, S.rest, fun b o hb => k1 b o (hideAll_get _ (S.keep b o hb) (s0in b o hb)), fun p hp => let ⟨o, a, b, _⟩ := hat p hp; ⟨o, a, b⟩, S.nodup, S.out, ?_⟩, ⟨⟨oe, vs, T, oT, ts, t1, t2, t3, t4, t6, t7, t8, t9, ?_, fun p hp q => ?_⟩, he0, heW⟩⟩
  · obtain ⟨p, hp⟩ := List.exists_mem_of_ne_nil _ hne
    obtain ⟨o, ho, _⟩ := hat p hp
    exact Nat.le_trans (S.out p hp) (Nat.le_of_lt (Heap.lt_size ho))
  · cases q : s₀.heap.get? T with
    | none => rfl
    | some o =>
      have := hideAll_get (e :: as ++ l.filterMap (·.frame)) (S.keep T o q) (s0in T o q)
      rw [t5] at this; cases this
  · obtain ⟨o, ho, _, hd⟩ := hat p hp
    by_cases z : p.1 ∈ l.filterMap (·.frame)
    · obtain ⟨es, ep, h1⟩ := hd z
      rw [q, t7] at ho
      cases ho
      rw [h1] at t8; cases t8
    · obtain ⟨o', ho', _⟩ := S.at_ p hp
      have : (hideAll s.heap (e :: as ++ l.filterMap (·.frame))).get? p.1 = some o' := hideAll_get _ ho' fun hm => by
        rcases List.mem_append.mp hm with hm | hm
        · rcases List.mem_cons.mp hm with r | hm
          · exact heW p hp r
          · exact (has _ hm).2 p hp rfl
        · exact z hm
      rw [q, t5] at this; cases this
end
end Mine
end
section
open PySem PySem.W PySem.Calls PyProof.Rows
set_option maxRecDepth 100000
namespace Mine
set_option linter.unusedVariables false
section
variable {w : World} {s₀ s : Shared} {W W' X R : Led} {A : Around} {E : Value → Shared → Prop} {env : Env} {σ : Dm} {b : Bool}
theorem funOn {base : Heap} (S : Sp w s₀ W s) : ∀ {l : List Env}, FrOn l W → (∀ a ∈ l.filterMap (·.frame), base.get? a = none) → s.heap.FunFrames base l
  | [], _, _ => trivial
  | env :: l, h, hb => by
    obtain ⟨hk, L, m, hf, hm⟩ := h env (.head _)
    obtain ⟨o, ho, es, ep, h1, _⟩ := S.at_ _ hm
    refine ⟨by rw [hk]; decide, ⟨L, o, hf, hb L (by rw [List.filterMap_cons, hf]; exact .head _), ho, fun vs q => by rw [h1] at q; cases q⟩, funOn S (fun e he => h e (.tail _ he)) fun a ha => hb a (by rw [List.filterMap_cons, hf]; exact .tail _ ha)⟩
theorem noteFirst {outer : List Env} {L e : Addr} {oe : Obj} {vs : Array Value} {Q : Unit → Shared → Prop} (S : Sp w s₀ W s) (hfr : A.frames = some (env :: outer)) (hF : FrOn (env :: outer) W) (hf : env.frame = some L) (he : s.heap.get? e = some oe) (hc : oe.cls = .ref 266) (hd : oe.data = .fields vs) (h1 : vs[1]? = some .none)
    (he0 : s₀.heap.get? e = none) (heW : ∀ p ∈ W, p.1 ≠ e) (hQ : ∀ s', Sp w s₀ W s' → Fly s₀ W e s' → Q () s') :
    wpAny (model pg w) A (noteFrame (.ref e) env) (fun _ s' => wpAny (model pg w) A (setFlight (.ref e) none) Q E s') E s := by
  have hne : W ≠ [] := by
    obtain ⟨_, L, m, _, hm⟩ := hF env (.head _)
    intro q; rw [q] at hm; cases hm
  unfold noteFrame
  simp only [hf]
  refine wpAny_bind (wpAny_field he hd h1 ?_)
  rw [if_neg (by decide)]
  refine wpAny_newEntry (base := hideAll s.heap (e :: [] ++ (env :: outer).filterMap (·.frame))) hfr (funOn S hF fun a ha => hideAll_none _ (List.mem_append_right _ ha)) hf he (fun b o h => of_hideAll _ h) (hideAll_none _ (.head _)) hd (Array.getElem?_eq_some_iff.mp h1).1 fun h' hL => ?_
  rw [hc] at hL
  obtain ⟨S', F'⟩ := left_sp (as := []) S hF he0 heW (fun a ha => by cases ha) hne hL
  exact hQ _ S' F'
theorem noteNext {outer : List Env} {L e : Addr} {Q : Unit → Shared → Prop} (S : Sp w s₀ W s) (F : Fly s₀ W e s) (hfr : A.frames = some (env :: outer)) (hF : FrOn (env :: outer) W) (hf : env.frame = some L)
    (hQ : ∀ s', Sp w s₀ W s' → Fly s₀ W e s' → Q () s') :
    wpAny (model pg w) A (noteFrame (.ref e) env) (fun _ s' => wpAny (model pg w) A (setFlight (.ref e) none) Q E s') E s := by
  have hne : W ≠ [] := by
    obtain ⟨_, L, m, _, hm⟩ := hF env (.head _)
    intro q; rw [q] at hm; cases hm
  obtain ⟨⟨oe, vs, T, oT, ts, he, hc, hd, h1, hTe, hT, hdT, h3, hT0, hTW⟩, he0, heW⟩ := F
  unfold noteFrame
  simp only [hf]
  refine wpAny_bind (wpAny_field he hd h1 ?_)
  rw [if_pos (show (Value.ref T != Value.none) = true from by simp)]
  refine wpAny_bind (wpAny_field hT hdT h3 ?_)
  rw [if_neg (show ¬ ((Value.none == rawInt L) = true) from by simp [rawInt])]
  refine wpAny_bind (wpAny_setField hT hdT (Array.getElem?_eq_some_iff.mp h3).1 ?_)
  have other : ∀ b, b ≠ T → (s.heap.update T (Obj.mapFields (·.setIfInBounds 3 Value.none))).get? b = s.heap.get? b := fun b hb => Heap.get?_update_other _ _ (Ne.symm hb)
  -- the ledger after the old entry's note
  have S1 : Sp w s₀ W { s with heap := s.heap.update T (Obj.mapFields (·.setIfInBounds 3 Value.none)) } :=
    ⟨S.gd, S.rest, fun b o hb => (other b fun q => by rw [q, hT0] at hb; cases hb).trans (S.keep b o hb), fun p hp => let ⟨o, a, z⟩ := S.at_ p hp; ⟨o, (other _ (hTW p hp)).trans a, z⟩, S.nodup, S.out, by
      have := Heap.SameBut.update s.heap T (Obj.mapFields (·.setIfInBounds 3 Value.none))
      rw [show ({ s with heap := s.heap.update T (Obj.mapFields (·.setIfInBounds 3 Value.none)) } : Shared).heap.objs.size = s.heap.objs.size from this.1]
      exact S.big⟩
  refine wpAny_newEntry (base := hideAll (s.heap.update T (Obj.mapFields (·.setIfInBounds 3 Value.none))) (e :: [T] ++ (env :: outer).filterMap (·.frame))) hfr (funOn S1 hF fun a ha => hideAll_none _ (List.mem_append_right _ ha)) hf ((other e (Ne.symm hTe)).trans he) (fun b o h => of_hideAll _ h) (hideAll_none _ (.head _)) hd (Array.getElem?_eq_some_iff.mp h1).1 fun h' hL => ?_
  rw [hc] at hL
  obtain ⟨S', F'⟩ := left_sp (as := [T]) S1 hF he0 heW (fun a ha => by rw [List.mem_singleton.mp ha]; exact ⟨hT0, hTW⟩) hne hL
  exact hQ _ S' F'
theorem leaveNext {outer : List Env} {L e : Addr} {Q : Unit → Shared → Prop} (S : Sp w s₀ W s) (F : Fly s₀ W e s) (hfr : A.frames = some (env :: outer)) (hF : FrOn (env :: outer) W) (hf : env.frame = some L) (hQ : ∀ s', Sp w s₀ W s' → Fly s₀ W e s' → Q () s') : wpAny (model pg w) A (leaving env (.ref e)) Q E s := by
  unfold leaving; exact wpAny_bind (noteNext S F hfr hF hf hQ)
theorem leaveFirst {outer : List Env} {L e : Addr} {oe : Obj} {vs : Array Value} {Q : Unit → Shared → Prop} (S : Sp w s₀ W s) (hfr : A.frames = some (env :: outer)) (hF : FrOn (env :: outer) W) (hf : env.frame = some L) (he : s.heap.get? e = some oe) (hc : oe.cls = .ref 266) (hd : oe.data = .fields vs) (h1 : vs[1]? = some .none)
    (he0 : s₀.heap.get? e = none) (heW : ∀ p ∈ W, p.1 ≠ e) (hQ : ∀ s', Sp w s₀ W s' → Fly s₀ W e s' → Q () s') : wpAny (model pg w) A (leaving env (.ref e)) Q E s := by
  unfold leaving; exact wpAny_bind (noteFirst S hfr hF hf he hc hd h1 he0 heW hQ)
end
end Mine
end
section
open PySem PySem.W PySem.Calls
set_option maxRecDepth 100000
namespace Mine
set_option linter.unusedVariables false
section
variable {prog : Program} {w : World} {A : Around} {E : Value → Shared → Prop} {R : Result → Shared → Prop} {h : Heap} {g : Array GenState} {d : Drawn} {t : Nat} {os : OsState}
variable {nm q : Str} {C N : Addr} {bs bm bmB : List Value} {hdct : Bool} {sn : List Str} {sub : List Value} {ab : Bool} {col : Option Bool} {dd : Option Addr} {k0 k1 k2 k3 k5 : Option Value} {B newId initId : String}
structure Tl (B : String) (C : Addr) (bm : List Value) : Prop where
  b : (Value.ref C :: bm).contains (.type B) = true
  a : (Value.ref C :: bm).contains (.type "AttributeError") = false
  n : (Value.ref C :: bm).contains (.type "NameError") = false
theorem x_check {M : Model} (F : ExcBaseFacts B newId initId bmB) (T : Tl B C bm) {rest : List Value} {Q : Unit → Shared → Prop} (hC : h.get? C = some (excClassObj nm q C N bs bm hdct sn sub ab col dd k0 k1 k2 k3 k5 newId)) (hq : Q () ⟨h, g, d, t, os⟩) :
    wpAny M A (checkBuiltinCall newId ⟨.ref C :: rest, []⟩) Q E ⟨h, g, d, t, os⟩ := by
  have hstar := F.noStar
  have hb := T.b
  simp only [checkBuiltinCall, F.newKind, F.newSplit, F.newRow]
  repeat (first | refine wpAny_loadPart_at hC ?_ | (refine wpAny_isSubtype_exc hC ?_; rw [hb]) | refine wpAny_staticBase_exc hC ?_ | refine wpAny_madeBy_exc hC ?_ | simp only [bne_self_eq_false, Bool.false_eq_true, if_false] | wp_step)
  exact hq
theorem x_new (F : ExcBaseFacts B newId initId bmB) (T : Tl B C bm) {rest : List Value} (hC : h.get? C = some (excClassObj nm q C N bs bm hdct sn sub ab col dd k0 k1 k2 k3 k5 newId))
    (hq : R (.ok (.ret (.ref (h.objs.size + 1)))) ⟨(h.push { cls := .type "tuple", data := .seq rest.toArray }).push { cls := .ref C, data := .fields #[.ref h.objs.size, .none, .none, .none, .bool false, .none] }, g, d, t, os⟩) (hrest : rest.length ≤ sizeLine := by size_fits) :
    codeAny (model prog w) A (.builtin newId ⟨.ref C :: rest, []⟩) R ⟨h, g, d, t, os⟩ := by
  have hends := F.ends
  have hb := T.b
  have ha := T.a
  have hn := T.n
  refine codeAny_builtinAt F.entry ?_
  unfold Builtin.«BaseException.__new__»
  refine wpAt_bind ?_
  show wpAt _ _ _ (stack >>= _) _ _ _
  refine wpAt_bind (wpAt_stack fun p below => wpAt_of_wpAny ?_)
  wp_walk
  refine wpAt_of_wpAny ?_
  rw [F.owner]
  repeat (first | with_reducible refine wpAny_madeHere_exc F.canon hC ?_ | with_reducible refine wpAny_loadPart_at hC ?_ | (with_reducible refine wpAny_isSubtype_exc hC ?_; first | rw [hb] | rw [ha] | rw [hn]) | wp_step)
  show R _ _
  rw [Heap.size_push]
  exact hq
theorem x_type (F : ExcBaseFacts B newId initId bmB) (T : Tl B C bm) {rest : List Value} {fI : Addr} {oI : Obj} {Q : Fin → Shared → Prop} (hC : h.get? C = some (excClassObj nm q C N bs bm hdct sn sub ab col dd k0 k1 k2 k3 k5 newId))
    (hi : Looks (model prog w) h (typeLookup (.ref C) "__init__") (some (.ref fI))) (hfI : h.get? fI = some oI) (hfc : oI.cls = .type "function")
    (hq : wpAny (model prog w) A (call (.ref fI) (.ref (h.objs.size + 1) :: rest)) (fun r s' => r = .none ∧ Q (.done (.ret (.ref (h.objs.size + 1)))) s') E
      ⟨(h.push { cls := .type "tuple", data := .seq rest.toArray }).push { cls := .ref C, data := .fields #[.ref h.objs.size, .none, .none, .none, .bool false, .none] }, g, d, t, os⟩) (hrest : rest.length ≤ sizeLine := by size_fits) :
    wpAny (model prog w) A (Builtin.«type.__call__» ⟨.ref C :: rest, []⟩) Q E ⟨h, g, d, t, os⟩ := by
  repeat (first | with_reducible refine wpAny_loadPart_at hC ?_ | with_reducible refine wpAny_madeBy_exc hC ?_ | wp_step)
  refine codeAny_call_builtin_code (Code.quiet_builtin _ F.quiet) (x_check F T hC ?_)
  refine x_new F T hC ?_ hrest
  show wpAny _ _ _ _ _ _
  have kk : ∀ b o, h.get? b = some o → ((h.push { cls := .type "tuple", data := .seq rest.toArray }).push { cls := .ref C, data := .fields #[.ref h.objs.size, .none, .none, .none, .bool false, .none] }).get? b = some o := fun b o e => Heap.get?_push_of_some _ (Heap.get?_push_of_some _ e)
  have hC₁ := kk _ _ hC
  have hfI₁ := kk _ _ hfI
  have hget : ((h.push { cls := .type "tuple", data := .seq rest.toArray }).push { cls := .ref C, data := .fields #[.ref h.objs.size, .none, .none, .none, .bool false, .none] }).get? (h.objs.size + 1) = some
      { cls := .ref C, data := .fields #[.ref h.objs.size, .none, .none, .none, .bool false, .none] } := by heap_get
  have hcC : (Value.ref C :: bm).contains (.ref C) = true := by simp
  have i1 := hi.keeps kk
  unfold isInstance
  repeat (first | with_reducible refine wpAny_loadPart_at hget ?_ | (with_reducible refine wpAny_isSubtype_exc hC₁ ?_; rw [hcC]) | wp_step)
  refine i1.at ?_
  refine wpAny_holding (wpAny_bind ?_)
  unfold bindSpecial
  refine wpAny_bind (wpAny_typeOf (T := "function") ⟨_, hfI₁, hfc⟩ ?_)
  rw [if_pos (by decide)]
  refine wpAny_pure (wpAny_bind (wpAny_mono hq (fun r s' hr => ?_) fun _ _ x => x))
  obtain ⟨rfl, hQ⟩ := hr
  wp_walk
  exact hQ
theorem x_call (F : ExcBaseFacts B newId initId bmB) (T : Tl B C bm) {rest : List Value} {fI : Addr} {oI : Obj} {Q : Value → Shared → Prop} (hC : h.get? C = some (excClassObj nm q C N bs bm hdct sn sub ab col dd k0 k1 k2 k3 k5 newId))
    (hi : Looks (model prog w) h (typeLookup (.ref C) "__init__") (some (.ref fI))) (hfI : h.get? fI = some oI) (hfc : oI.cls = .type "function")
    (hq : wpAny (model prog w) (A.under (.builtin "type.__call__" ⟨.ref C :: rest, []⟩)) (call (.ref fI) (.ref (h.objs.size + 1) :: rest)) (fun r s' => r = .none ∧ Q (.ref (h.objs.size + 1)) s') E
      ⟨(h.push { cls := .type "tuple", data := .seq rest.toArray }).push { cls := .ref C, data := .fields #[.ref h.objs.size, .none, .none, .none, .bool false, .none] }, g, d, t, os⟩) (hrest : rest.length ≤ sizeLine := by size_fits) :
    wpAny (model prog w) A (call (.ref C) rest) Q E ⟨h, g, d, t, os⟩ := by
  have f1 := tc_lookup
  have f2 := tc_bind (.ref C)
  have hT : (⟨h, g, d, t, os⟩ : Shared).TypeIs (.ref C) "type" := ⟨_, hC, rfl⟩
  refine wpAny_call (codeAny_of_tree ?_)
  show wpAny _ _ (callAny (.ref C) _) _ _ _
  repeat (any_goals (first | assumption | with_reducible refine wpAny_loadPart_at hC ?_ | wp_step))
  refine ⟨rfl, ?_⟩
  exact codeAny_call_builtin_at (Code.quiet_builtin _ (by decide +kernel)) entry_typeCall (wpAny_check_type_call_sub hC (x_type (hrest := hrest) F T hC hi hfI hfc hq))
end
end Mine
end
section
open PySem PySem.W PySem.Calls PyProof.Rows
set_option maxRecDepth 100000
namespace Mine
set_option linter.unusedVariables false
section
variable {w : World} {s₀ s : Shared} {W W' X R : Led} {A : Around} {E : Value → Shared → Prop} {env : Env} {σ : Dm} {b : Bool}
theorem mtExc {pl : Sem Bool} {Q : Value × List Value → Shared → Prop} (S : Sp w s₀ W s) (h : ∀ s', Sp w s₀ W s' → Q (.builtin "Exception.__init__", []) s') : wpAny (model pg w) A (getMethod (.type "Exception") (k "__init__") pl) Q E s := by
  have e1 : typeOf (.type "Exception") = pure (.type "type") := by kernel_rfl
  have e2 : opaqueClassAbove (.type "Exception") = pure none := by kernel_rfl
  have ho : Looks (model pg w) s.heap (opaqueClassAbove (.type "Exception")) none := Looks.of_pure e2
  have ht : Looks (model pg w) s.heap (typeOf (.type "Exception")) (.type "type") := Looks.of_pure e1
  have hg : Looks (model pg w) s.heap (specialOf (.type "Exception") "__getattribute__") (some (.builtin "type.__getattribute__")) := ht.andThen (looks_findIn S.K (t := .type "type") (by kernel_rfl))
  unfold getMethod
  refine wpAny_bind (hg.here ?_)
  dsimp only
  rw [if_pos canon_tga]
  refine wpAny_bind (cls_open (r := .val (.builtin "Exception.__init__")) (hook := none) S.K ho ht (by kernel_rfl) (looks_hook S.K (by kernel_rfl)) (by kernel_rfl) (by kernel_rfl) ?_)
  refine wpAny_pure ?_
  show wpAny _ _ (handedOut _) _ _ _
  rw [handedOut_of (by rfl)]
  exact wpAny_pure (wpAny_pure (h _ (S.toks _)))
end
end Mine
end
section
open PySem PySem.W PySem.Calls
set_option maxRecDepth 100000
namespace Mine
set_option linter.unusedVariables false
section
variable {prog : Program} {w : World} {A : Around} {E : Value → Shared → Prop} {R : Result → Shared → Prop} {h : Heap} {g : Array GenState} {d : Drawn} {t : Nat} {os : OsState}
variable {nm q : Str} {C N : Addr} {bs bm bmB : List Value} {hdct : Bool} {sn : List Str} {sub : List Value} {ab : Bool} {col : Option Bool} {dd : Option Addr} {k0 k1 k2 k3 k5 : Option Value} {B newId initId : String}
theorem x_checkInit (F : ExcBaseFacts B newId initId bmB) (T : Tl B C bm) {M : Model} {e : Addr} {oe : Obj} {rest : List Value} {Q : Unit → Shared → Prop}
    (hC : h.get? C = some (excClassObj nm q C N bs bm hdct sn sub ab col dd k0 k1 k2 k3 k5 newId)) (he : h.get? e = some oe) (hcls : oe.cls = .ref C) (hq : Q () ⟨h, g, d, t, os⟩) :
    wpAny M A (checkBuiltinCall initId ⟨.ref e :: rest, []⟩) Q E ⟨h, g, d, t, os⟩ := by
  have hcB := T.b
  have hshort := F.noStar
  simp only [checkBuiltinCall, F.initKind, F.initSplit, F.initRow]
  repeat (first | (with_reducible refine wpAny_loadPart_at he ?_; rw [hcls]) | with_reducible refine wpAny_loadPart_at hC ?_ | (with_reducible refine wpAny_isSubtype_exc hC ?_; rw [hcB]) | wp_step)
  refine wpAny_onRaise ?_
  rw [show ∀ (a b : String) (n : Nat), Bind.check ⟨.positional, "*", B, .self, [⟨"args", .varPos, false⟩]⟩ a b n (List.map (fun x => x.fst) ({ pos := Value.ref e :: rest } : Args).kw) = pure () from
    fun a b n => check_star_args _ _ _ _ _ _]
  exact wpAny_pure hq
theorem x_init (F : ExcBaseFacts B newId initId bmB) (T : Tl B C bm) {e : Addr} {oe : Obj} {rest : List Value} {a0 : Addr} {Q : Value → Shared → Prop}
    (hC : h.get? C = some (excClassObj nm q C N bs bm hdct sn sub ab col dd k0 k1 k2 k3 k5 newId)) (he : h.get? e = some { cls := .ref C, data := .fields #[.ref a0, .none, .none, .none, .bool false, .none] })
    (hq : Q .none ⟨(h.push { cls := .type "tuple", data := .seq rest.toArray }).update e (Obj.mapFields (·.setIfInBounds 0 (.ref h.objs.size))), g, d, t, os⟩) (hrest : rest.length ≤ sizeLine := by size_fits) :
    wpAny (model prog w) A (call (.builtin initId) (.ref e :: rest)) Q E ⟨h, g, d, t, os⟩ := by
  have he1 := Heap.get?_push_of_some { cls := .type "tuple", data := .seq rest.toArray } he
  refine wpAny_call (codeAny_call_builtin F.init.plain F.initEntry (x_checkInit F T hC he rfl ?_))
  wp_walk
  exact hq
end
end Mine
end
section
open PySem PySem.W PySem.Calls
set_option maxRecDepth 100000
namespace Mine
set_option linter.unusedVariables false
section
open PySem.Builtin.ObjectAttr
variable {w : World} {s₀ s : Shared} {W W' X R : Led} {A : Around} {E : Value → Shared → Prop} {env : Env} {σ : Dm} {b : Bool}
structure Exc (s₀ : Shared) (W : Led) (x : Addr) (vs : Array Value) (m : Str → Option Value) (s : Shared) : Prop where
  e0 : s₀.heap.objs.size ≤ x
  eW : ∀ p ∈ W, p.1 ≠ x
  body : ∃ dd, s.heap.get? x = some { cls := .ref 266, dict := dd, data := .fields vs } ∧ ((dd = none ∧ ∀ n, m n = none) ∨ ∃ d, dd = some d ∧ d ≠ x ∧ s.heap.Ns1 d m ∧ s₀.heap.objs.size ≤ d ∧ ∀ p ∈ W, p.1 ≠ d)
theorem Sp.other {h' : Heap} {tk : Nat} (S : Sp w s₀ W s) (L : List Addr) (hL : ∀ a ∈ L, s₀.heap.objs.size ≤ a ∧ ∀ p ∈ W, p.1 ≠ a) (hk : ∀ b o, b ∉ L → s.heap.get? b = some o → h'.get? b = some o) (hs : s.heap.objs.size ≤ h'.objs.size) : Sp w s₀ W { s with heap := h', toks := tk } :=
  ⟨S.gd, S.rest, fun b o hb => hk b o (fun q => Nat.lt_irrefl _ (Nat.lt_of_lt_of_le (Heap.lt_size hb) (hL b q).1)) (S.keep b o hb), fun p hp => let ⟨o, a, z⟩ := S.at_ p hp; ⟨o, hk _ _ (fun q => (hL _ q).2 p hp rfl) a, z⟩, S.nodup, S.out, Nat.le_trans S.big hs⟩
noncomputable def wrX (K : Frag) (C : Addr) (name : Str) : Bool := (takerIn K C name == some none) && (clsIn K C).any (fun cd => cd.hasDict && (cd.mro == [.ref 266, .ref 246, .type "Exception", .type "BaseException", .type "object"])) && (findIn K (.ref C) "__setattr__" == some (some (.builtin "object.__setattr__")))
theorem x_store {x : Addr} {vs : Array Value} {m : Str → Option Value} {name : Str} {v : Value} {ns : List Str} {Q : Unit → Shared → Prop} (S : Sp w s₀ W s) (X : Exc s₀ W x vs m s) (hc : wrX (K w.params) 266 name = true)
    (h : ∀ s', Sp w s₀ W s' → Exc s₀ W x vs (fun y => if y = name then some v else m y) s' → Q () s') (hw : Within m ns := by within_ways) (hsz : ns.length ≤ sizeLine := by size_fits) : wpAny (model pg w) A (setAttr (.ref x) name v) Q E s := by
  obtain ⟨e0, eW, dd, hx, hd⟩ := X
  simp only [wrX, Bool.and_eq_true, beq_iff_eq] at hc
  obtain ⟨⟨c2, c3⟩, c5⟩ := hc
  obtain ⟨cd, hcd, hcd'⟩ := any_some c3
  simp only [Bool.and_eq_true, beq_iff_eq] at hcd'
  obtain ⟨hdict, hmro⟩ := hcd'
  have SF := PySem.F.store_Exception
  have t1 : Looks (model pg w) s.heap (typeOf (.ref x)) (.ref 266) := (Looks.ld hx).andThen .now
  have hm : Looks (model pg w) s.heap (mroOf (.ref 266)) cd.mro := (looks_clsIn S.K hcd).andThen .now
  have sub : Looks (model pg w) s.heap (isInstance (.ref x) (.type "object")) true := t1.andThen (looks_mroIn S.K (by unfold mroIn; rw [hcd, Option.bind_some, hmro]; rfl))
  unfold setAttr callSpecial? specialOf
  refine wpAny_bind (wpAny_mkText ?_)
  refine wpAny_bind (wpAny_bind (wpAny_bind (t1.at ((looks_findIn S.K c5).at (wpAny_holding ?_)))))
  rw [SF.slot.bind]
  refine wpAny_bind (wpAny_pure (wpAny_bind (wpAny_call ?_)))
  refine codeAny_call_builtin SF.slot.plain SF.entry (@check_slot (model pg w) _ _ _ "object.__setattr__" "object" "__setattr__" (.ref x) [.str name s.toks, v] [] _ SF.kind SF.split sub (SF.args (.ref x) (.str name s.toks) v) ?_)
  obtain ⟨attr, ha, hr⟩ := Option.bind_eq_some_iff.mp c2
  have L3 : Looks (model pg w) s.heap (storeTaker? attr) none := by
    cases attr with
    | none => cases hr; exact .now
    | some a =>
      obtain ⟨b, hb, hr⟩ := Option.map_eq_some_iff.mp hr
      refine (looks_takesIn S.K hb).andThen ?_
      cases b <;> first | exact .now | cases hr
  show wpAny _ _ (Builtin.«object.__setattr__» ⟨[.ref x, .str name s.toks, v], []⟩) _ _ _
  rw [osa_eq, refuse_eq]
  refine wpAny_bind (wpAny_bind (t1.at (wpAny_bind (hm.at ?_))))
  rw [hmro, refuseLoop_ref, refuseLoop_ref, SF.passes]
  refine wpAny_pure (wpAny_bind (t1.at (wpAny_bind ((looks_findIn S.K ha).at (wpAny_bind (L3.at ?_))))))
  dsimp only
  refine wpAny_bind (wpAny_pure (wpAny_bind (wpAny_bind (wpAny_loadPart hx (wpAny_bind ((looks_clsIn S.K hcd).at ?_))))))
  rw [hdict]
  rcases hd with ⟨rfl, hmA⟩ | ⟨dx, rfl, hne, hns, hd0, hdW⟩
  · have hx₁ : (s.heap.push { cls := .type "dict", data := .dict #[] }).get? x = some { cls := .ref 266, dict := none, data := .fields vs } := Heap.get?_push_of_some _ hx
    have hxs : x ≠ s.heap.objs.size := Nat.ne_of_lt (Heap.lt_size hx)
    show wpAny _ _ (alloc { cls := .type "dict", data := .dict #[] } >>= fun d => update x (fun o => { o with dict := some d }) >>= fun _ => dictMade (.ref 266) x d) _ _ _
    refine wpAny_bind (wpAny_alloc' ?_)
    refine wpAny_bind (wpAny_update' hx₁ ?_)
    refine wpAny_pure (wpAny_bind ?_)
    have hgd : ((s.heap.push { cls := .type "dict", data := .dict #[] }).update x fun o => { cls := o.cls, dict := some s.heap.objs.size, data := o.data, slots := o.slots }).get? s.heap.objs.size
        = some { cls := .type "dict", data := .dict #[] } :=
      (Heap.get?_update_ne _ _ _ _ hxs.symm).trans (Heap.get?_push_at rfl rfl)
    have hnd : ((s.heap.push { cls := .type "dict", data := .dict #[] }).update x fun o => { cls := o.cls, dict := some s.heap.objs.size, data := o.data, slots := o.slots }).Ns s.heap.objs.size (fun _ => none) :=
      ⟨_, #[], _, hgd, rfl, fun e he => absurd he (by simp), fun _ => rfl⟩
    refine wpAny_pure (wpAny_bind (wpAny_nsSet1 (Heap.Ns1.of_empty hnd) fun h' hn' hs => ?_))
    obtain ⟨oD, esD, epD, hoD, hdD, hcD⟩ := hn'.count (Within.cons name v Within.nil)
    refine wpAny_bind (wpAny_lookBehind hoD (by rw [hdD]; exact pastItsLine_dict (Nat.le_trans hcD (by rw [List.length_cons, List.length_nil, sizeLine_eq]; lia))) ?_)
    refine wpAny_pure (wpAny_pure (wpAny_pure ?_))
    have hx' : h'.get? x = some { cls := .ref 266, dict := some s.heap.objs.size, data := .fields vs } := (hs.2 x hxs).trans (Heap.get?_update_self _ hx₁ rfl)
    have hout : ∀ p ∈ W, p.1 ≠ s.heap.objs.size := fun p hp q => let ⟨o, a, _⟩ := S.at_ p hp; Nat.lt_irrefl _ (q ▸ Heap.lt_size a)
    have h00 := S.big
    have hz : s.heap.objs.size ≤ h'.objs.size := by
      rw [hs.1, (Heap.SameBut.update _ _ _).1, Heap.size_push]; exact Nat.le_succ _
    refine h _ (S.other [x, s.heap.objs.size] (fun a q => ?_) (fun b o q hb => ?_) hz) ⟨e0, eW, _, hx', .inr ⟨_, rfl, hxs.symm, ?_, h00, hout⟩⟩
    · rcases List.mem_cons.mp q with rfl | q
      · exact ⟨e0, eW⟩
      · rw [List.mem_singleton.mp q]; exact ⟨h00, hout⟩
    · refine (hs.2 b (fun z => q (by rw [z]; exact .tail _ (.head _)))).trans ((Heap.get?_update_ne _ _ _ _ fun z => q (by rw [z]; exact .head _)).trans (Heap.get?_push_of_some _ hb))
    · obtain ⟨o', es, ep, e1, e2, e3, eu, e4⟩ := hn'
      exact ⟨o', es, ep, e1, e2, e3, eu, fun y => by rw [e4 y]; by_cases hy : y = name <;> simp [hy, hmA]⟩
  · refine wpAny_pure (a := some dx) (wpAny_bind (wpAny_pure (wpAny_bind (wpAny_nsSet1 hns fun h' hn' hs => ?_))))
    obtain ⟨oD, esD, epD, hoD, hdD, hcD⟩ := hn'.count (Within.cons name v hw)
    refine wpAny_bind (wpAny_lookBehind hoD (by rw [hdD]; exact pastItsLine_dict (Nat.le_trans hcD (by rw [List.length_cons]; lia))) ?_)
    refine wpAny_pure (wpAny_pure (wpAny_pure ?_))
    refine h _ (S.other [dx] (fun a q => by rw [List.mem_singleton.mp q]; exact ⟨hd0, hdW⟩) (fun b o q hb => (hs.2 b (fun z => q (by rw [z]; exact .head _))).trans hb) (Nat.le_of_eq hs.1.symm)) ⟨e0, eW, some dx, (hs.2 x hne.symm).trans hx, .inr ⟨dx, rfl, hne, hn', hd0, hdW⟩⟩
noncomputable def xO (vs : Array Value) (dd : Option Addr) : Obj → Prop := fun o => o = { cls := .ref 266, dict := dd, data := .fields vs }
noncomputable def nO (m : Str → Option Value) : Obj → Prop := fun o => ∃ es ep, o.data = .dict es ep ∧ StrKeys es ∧ UniqKeys es ∧ ∀ x, nsFind es x = m x
theorem Exc.back {x : Addr} {vs : Array Value} {m : Str → Option Value} {n : Str} {v : Value} (S : Sp w s₀ W s) (X : Exc s₀ W x vs m s) (hm : m n = some v) : ∃ d, Sp w s₀ ((x, .raw (xO vs (some d))) :: (d, .raw (nO m)) :: W) s := by
  obtain ⟨e0, eW, dd, hx, hd⟩ := X
  rcases hd with ⟨rfl, hmA⟩ | ⟨dx, rfl, hne, ⟨o, es, ep, h1, h2, h3, h4, h5⟩, hd0, hdW⟩
  · rw [hmA] at hm; cases hm
  · refine ⟨dx, S.gd, S.rest, S.keep, fun p hp => ?_, ?_, fun p hp => ?_, S.big⟩
    · rcases List.mem_cons.mp hp with rfl | hp
      · exact ⟨_, hx, rfl⟩
      rcases List.mem_cons.mp hp with rfl | hp
      · exact ⟨o, h1, es, ep, h2, h3, h4, h5⟩
      · exact S.at_ p hp
    · simp only [List.map_cons, List.nodup_cons, List.mem_cons, not_or]
      exact ⟨⟨hne.symm, fun z => let ⟨p, hp, e⟩ := List.mem_map.mp z; eW p hp e⟩, fun z => let ⟨p, hp, e⟩ := List.mem_map.mp z; hdW p hp e, S.nodup⟩
    · rcases List.mem_cons.mp hp with rfl | hp
      · exact e0
      rcases List.mem_cons.mp hp with rfl | hp
      · exact hd0
      · exact S.out p hp
theorem not_fst {a : Addr} {x : SO} (S : Sp w s₀ ((a, x) :: W) s) : ∀ p ∈ W, p.1 ≠ a := fun p hp e => by
  have := S.nodup
  rw [List.map_cons, List.nodup_cons] at this
  exact this.1 (List.mem_map.mpr ⟨p, hp, e⟩)
theorem x_set1 {x : Addr} {vs : Array Value} {name : Str} {v : Value} {Q : Unit → Shared → Prop} (S : Sp w s₀ ((x, .raw (xO vs none)) :: W) s) (hc : wrX (K w.params) 266 name = true)
    (h : ∀ d s', Sp w s₀ ((x, .raw (xO vs (some d))) :: (d, .raw (nO fun y => if y = name then some v else none)) :: W) s' → Q () s') : wpAny (model pg w) A (setAttr (.ref x) name v) Q E s := by
  obtain ⟨o, ho, ho'⟩ := S.at_ _ (.head _)
  refine x_store (m := fun _ => none) (ns := []) (S.sub (.cons _ (.refl _))) ⟨S.out _ (.head _), not_fst S, none, by rw [ho]; exact congrArg some ho', .inl ⟨rfl, fun _ => rfl⟩⟩ hc (fun s' S' X' => ?_) Within.nil
  obtain ⟨d, z⟩ := X'.back (n := name) (v := v) S' (by simp)
  exact h d _ z
theorem x_set2 {x d : Addr} {vs : Array Value} {m : Str → Option Value} {name : Str} {v : Value} {ns : List Str} {Q : Unit → Shared → Prop} (S : Sp w s₀ ((x, .raw (xO vs (some d))) :: (d, .raw (nO m)) :: W) s) (hc : wrX (K w.params) 266 name = true)
    (h : ∀ d s', Sp w s₀ ((x, .raw (xO vs (some d))) :: (d, .raw (nO fun y => if y = name then some v else m y)) :: W) s' → Q () s') (hw : Within m ns := by within_ways) (hsz : ns.length ≤ sizeLine := by size_fits) : wpAny (model pg w) A (setAttr (.ref x) name v) Q E s := by
  obtain ⟨o, ho, ho'⟩ := S.at_ _ (.head _)
  obtain ⟨oD, hD, es, ep, k1, k2, k3, k4⟩ := S.at_ _ (.tail _ (.head _))
  have S1 := S.sub (.cons _ (.refl _))
  refine x_store (m := m) (ns := ns) (S1.sub (.cons _ (.refl _))) ⟨S.out _ (.head _), fun p hp => not_fst S p (.tail _ hp), some d, by rw [ho]; exact congrArg some ho', .inr ⟨d, rfl, not_fst S _ (.head _), ⟨oD, es, ep, hD, k1, k2, k3, k4⟩, S.out _ (.tail _ (.head _)), not_fst S1⟩⟩ hc (fun s' S' X' => ?_) hw hsz
  obtain ⟨d, z⟩ := X'.back (n := name) (v := v) S' (by simp)
  exact h d _ z
end
end Mine
end
section
open PySem PySem.W PySem.Calls PyProof.Rows
set_option maxRecDepth 100000
namespace Mine
set_option linter.unusedVariables false
section
variable {w : World} {s₀ s : Shared} {W W' X R : Led} {A : Around} {E : Value → Shared → Prop} {env : Env} {σ : Dm} {b : Bool} {Q : Value → Shared → Prop}
noncomputable abbrev dieMro : List Value := [.ref 246, .type "Exception", .type "BaseException", .type "object"]
theorem dieT : Tl "Exception" 266 dieMro := ⟨by decide, by decide, by decide⟩
theorem Sp.swap0 {p q : Addr × SO} (S : Sp w s₀ (p :: q :: W) s) : Sp w s₀ (q :: p :: W) s := S.perm (List.Perm.swap q p W)
noncomputable def xR : Obj → Prop := fun o => ∃ d vs, xO vs d o ∧ vs[1]? = some .none
theorem perl_init {x : Addr} {a0 : Addr} {u : Value} (S : Sp w s₀ ((x, .raw (xO #[.ref a0, .none, .none, .none, .bool false, .none] none)) :: W) s) (hA : Rm A 2)
    (h : ∀ d a s', Sp w s₀ ((x, .raw (xO #[.ref a, .none, .none, .none, .bool false, .none] (some d))) :: (d, .raw (nO fun y => if y = k "text" then some u else none)) :: W) s' → Q .none s') : wpAny (model pg w) A (call (.ref 243) [.ref x, u]) Q E s := by
  refine callS0 [(k "text", u), (k "self", .ref x)] S hA.lt rfl (by kernel_rfl) (BindsTo.of_eq rfl) (fun L s1 S1 => ?_)
  refine wpAny_execs_cons (wpAny_Expr_any (callM (nmB (v := .type "Exception") S1 (by kernel_rfl) (by kernel_rfl) (mtExc S1 fun s2 S2 => bi2 ?_))))
  refine nmL S2 (.head _) rfl (nmL S2 (.head _) rfl ?_)
  obtain ⟨o, ho, ho'⟩ := S2.at_ _ (.tail _ (.head _))
  obtain ⟨hh, g, d, t, os⟩ := s2
  refine x_init (oe := o) PySem.F.excBase_Exception dieT (S2.K 266 _ rfl) (by rw [ho]; exact congrArg some ho') ?_
  have p1 := S2.push (t := t) (o := { cls := .type "tuple", data := .seq [u].toArray }) (x := .tup [er u]) ⟨[u], 0, rfl, rfl⟩
  have S3 := (p1.change' (t := t) (.tail (.tail .head)) (Heap.SameBut.update _ x (Obj.mapFields (·.setIfInBounds 0 (.ref hh.objs.size)))) (Heap.get?_update_self _ (Heap.get?_push_of_some _ ho) (by rw [show o = _ from ho']; rfl)) (y := .raw (xO #[.ref hh.objs.size, .none, .none, .none, .bool false, .none] none)) (by rw [show o = _ from ho']; rfl)).sub (.cons _ (.refl _))
  refine wpAny_execs_cons (asg (nmL S3 (.head _) rfl (nmL S3 (.head _) rfl ?_)))
  refine x_set1 S3.swap0 (by kernel_rfl) fun d s4 S4 => ?_
  exact wpAny_execs_nil (h d _ _ (S4.sub (.cons_cons _ (.cons_cons _ (.cons _ (.refl _))))))
theorem die_init {x : Addr} {a0 : Addr} {u : Value} (S : Sp w s₀ ((x, .raw (xO #[.ref a0, .none, .none, .none, .bool false, .none] none)) :: W) s) (hA : Rm A 3)
    (h : ∀ s', Sp w s₀ ((x, .raw xR) :: W) s' → Q .none s') : wpAny (model pg w) A (call (.ref 263) [.ref x, u]) Q E s := by
  refine callS0 [(k "value", u), (k "self", .ref x)] S hA.lt rfl (by kernel_rfl) (BindsTo.of_eq rfl) (fun L s1 S1 => ?_)
  refine wpAny_execs_cons (wpAny_Expr (callM (nmG (v := .ref 246) S1 (by kernel_rfl) (mtCls (v := .ref 243) S1 (by kernel_rfl) fun s2 S2 => df2 S2 (by kernel_rfl) ?_))))
  refine nmL S2 (.head _) rfl (wpAny_Constant_str ⟨⟨_, S2.toks _⟩, perl_init (S2.toks _).swap0 (hA.down _) fun d a s3 S3 => ?_⟩)
  refine wpAny_execs_cons (asg (nmL S3 (.tail _ (.tail _ (.head _))) rfl (nmL S3 (.tail _ (.tail _ (.head _))) rfl ?_)))
  refine x_set2 S3 (by kernel_rfl) (fun d' s4 S4 => ?_) (ns := [k "text"]) (Within.cons _ _ Within.nil)
  refine wpAny_execs_nil (h _ ?_)
  have S5 := S4.sub (.cons_cons _ (.cons _ (.cons _ (.refl _))))
  exact ⟨S5.gd, S5.rest, S5.keep, fun p hp => by
    rcases List.mem_cons.mp hp with rfl | hp
    · obtain ⟨o, ho, hz⟩ := S5.at_ _ (.head _)
      exact ⟨o, ho, _, _, hz, rfl⟩
    · exact S5.at_ p (.tail _ hp), S5.nodup, fun p hp => by
    rcases List.mem_cons.mp hp with rfl | hp
    · exact (S5.out _ List.mem_cons_self : s₀.heap.objs.size ≤ x)
    · exact S5.out p (.tail _ hp), S5.big⟩
theorem die_made {u : Value} (S : Sp w s₀ W s) (hA : Rm A 5) (h : ∀ e s', Sp w s₀ ((e, .raw xR) :: W) s' → Q (.ref e) s') : wpAny (model pg w) A (call (.ref 266) [u]) Q E s := by
  obtain ⟨hh, g, d, t, os⟩ := s
  refine x_call PySem.F.excBase_Exception dieT (S.K 266 _ rfl) (looks_findIn (r := some (.ref 263)) S.K (by kernel_rfl)) (S.K 263 _ rfl) rfl ?_
  have p1 := (S.push (t := t) (o := { cls := .type "tuple", data := .seq [u].toArray }) (x := .tup [er u]) ⟨[u], 0, rfl, rfl⟩).sub (.cons _ (.refl _))
  have p2 := p1.push (t := t) (o := { cls := .ref 266, data := .fields #[.ref hh.objs.size, .none, .none, .none, .bool false, .none] }) (x := .raw (xO #[.ref hh.objs.size, .none, .none, .none, .bool false, .none] none)) rfl
  simp only [Heap.size_push] at p2
  exact die_init p2 ((hA.le (by decide : 4 ≤ 5)).make) fun s' S' => ⟨rfl, h _ s' S'⟩
end
end Mine
end
section
open PySem PySem.W PySem.Calls
set_option maxRecDepth 100000
namespace Mine
set_option linter.unusedVariables false
section
variable {w : World} {s₀ s : Shared} {W W' X R : Led} {A : Around} {E : Value → Shared → Prop} {env : Env} {σ : Dm} {b : Bool} {Q : Flow → Shared → Prop}
theorem raise_core {M : Model} {nm q : Str} {C N : Addr} {bs bm : List Value} {hdct : Bool} {sn : List Str} {sub : List Value} {ab : Bool} {col : Option Bool} {dd : Option Addr} {k0 k1 k2 k3 k5 : Option Value} {newId : String} {x : Sem Value}
    (hcB : (Value.ref C :: bm).contains (.type "BaseException") = true) (hh : A.handled = none)
    (hx : wpAny M A x (fun v s₁ => ∃ e dx vs, v = .ref e ∧ s₁.heap.get? C = some (excClassObj nm q C N bs bm hdct sn sub ab col dd k0 k1 k2 k3 k5 newId) ∧ s₁.heap.get? e = some { cls := .ref C, dict := dx, data := .fields vs } ∧ vs[1]? = some .none ∧ E (.ref e) s₁) E s) : wpAny M A (raiseStmt env (some x) none) Q E s := by
  unfold raiseStmt
  refine wpAny_bind (wpAny_mono hx (fun v s₁ h₁ => ?_) fun _ _ x => x)
  obtain ⟨e, dx, vs, rfl, hC, he, h1, hE⟩ := h₁
  obtain ⟨h, g, d, t, os⟩ := s₁
  repeat (first | with_reducible refine wpAny_loadPart_at he ?_ | with_reducible refine wpAny_loadPart_at hC ?_ | (with_reducible refine wpAny_isSubtype_exc hC ?_; rw [hcB]) | wp_step)
  rw [h1]
  repeat wp_step
  exact wpAny_raiseNew_none hh hE
theorem die_cls (P : Params) : ∃ nm q N bs hdct sn sub ab col dd k0 k1 k2 k3 k5, (K P).lookup 266 = some (excClassObj nm q 266 N bs dieMro hdct sn sub ab col dd k0 k1 k2 k3 k5 "Exception.__new__") := ⟨_, _, _, _, _, _, _, _, _, _, _, _, _, _, _, rfl⟩
theorem raise_die {x : Expr} {pos : Pos} (hA : A.handled = none) (h : wpAny (model pg w) A (eval x env) (fun v s₁ => ∃ e W, v = .ref e ∧ Sp w s₀ W s₁ ∧ (e, SO.raw xR) ∈ W ∧ E (.ref e) s₁) E s) : wpAny (model pg w) A (exec (.Raise (some x) none pos) env) Q E s := by
  rw [arm_exec_Raise]
  obtain ⟨nm, q, N, bs, hdct, sn, sub, ab, col, dd, k0, k1, k2, k3, k5, hC⟩ := die_cls w.params
  refine wpAny_bind (wpAny_standAt (raise_core (x := do let v ← eval x env; standAt pos; pure v) (bm := dieMro) (C := 266) (nm := nm) (q := q) (N := N) (bs := bs) (hdct := hdct) (sn := sn) (sub := sub) (ab := ab) (col := col) (dd := dd) (k0 := k0) (k1 := k1) (k2 := k2) (k3 := k3) (k5 := k5) (newId := "Exception.__new__") (by decide) hA (wpAny_bind (wpAny_mono h (fun v s₁ z => wpAny_bind (wpAny_standAt (wpAny_pure ?_))) fun _ _ x => x))))
  obtain ⟨e, W, rfl, S, hm, hE⟩ := z
  obtain ⟨o, ho, d, vs, hz, h1⟩ := S.at_ _ hm
  exact ⟨e, d, vs, rfl, S.K 266 _ hC, by rw [ho]; exact congrArg some hz, h1, hE⟩
end
end Mine
end
section
open PySem PySem.W PySem.Calls PyProof.Rows
set_option maxRecDepth 100000
namespace Mine
set_option linter.unusedVariables false
section
variable {w : World} {s₀ s : Shared} {W W' X R : Led} {A : Around} {E : Value → Shared → Prop} {env : Env} {σ : Dm} {b : Bool} {Q : Value → Shared → Prop} {l : List Env}
theorem Sp.none0 {p : Addr × SO} (S : Sp w s₀ W s) (h : p ∈ W) : s₀.heap.get? p.1 = none := by
  cases q : s₀.heap.get? p.1 with
  | none => rfl
  | some o => exact absurd (Nat.lt_of_lt_of_le (Heap.lt_size q) (S.out p h)) (Nat.lt_irrefl _)
theorem leave1 {outer : List Env} {L e : Addr} {Q : Unit → Shared → Prop} (S : Sp w s₀ ((e, .raw xR) :: W) s) (hfr : A.frames = some (env :: outer)) (hF : FrOn (env :: outer) W) (hf : env.frame = some L) (hQ : ∀ s', Sp w s₀ W s' → Fly s₀ W e s' → Q () s') : wpAny (model pg w) A (leaving env (.ref e)) Q E s := by
  obtain ⟨o, ho, d, vs, hz, h1⟩ := S.at_ _ (.head _)
  exact leaveFirst (S.sub (.cons _ (.refl _))) hfr hF hf ho (by rw [hz]) (by rw [hz]) h1 (S.none0 (.head _)) (not_fst S) hQ
theorem FrOn.on {l : List Env} (h : FrOn l R) : FrOn l (X ++ R) := h.sub fun p hp z => ⟨z.choose, by rw [← z.choose_spec]; exact List.mem_append_right _ hp⟩
theorem FrOn.tl {l : List Env} {p : Addr × SO} (h : FrOn l R) : FrOn l (p :: R) := h.sub fun q hq z => ⟨z.choose, by rw [← z.choose_spec]; exact .tail _ hq⟩
theorem FrOn.ns {l : List Env} {L : Addr} {m m' : List (Str × Value)} (h : FrOn l ((L, .ns m) :: R)) : FrOn l ((L, .ns m') :: R) := h.sub fun q hq z => by
  rcases List.mem_cons.mp hq with rfl | hq
  · exact ⟨m', .head _⟩
  · exact ⟨z.choose, by rw [← z.choose_spec]; exact .tail _ hq⟩
theorem callX {X R : Led} (m : List (Str × Value)) {name qual : Str} {params : Arguments} {body : List Stmt} {scope : Scope} {dV kV doc pm cdv ct oc : Value} {an od : Option Addr} {osl : Array (Option Value)} {f : Addr} {args : List Value}
    (S : Sp w s₀ (X ++ R) s) (hA : A.depth < recursionLimit) (hfr : A.frames = some l) (hF : FrOn l R) (ho : (K w.params).lookup f = some ⟨oc, od, .func (fnOf name qual params body scope dV kV doc pm an cdv ct), osl⟩)
    (hcd : codeIn (K w.params) cdv qual = true) (hbind : BindsTo s (fnOf name qual params body scope dV kV doc pm an cdv ct) ⟨args, []⟩ m.reverse)
    (h : ∀ L s', Sp w s₀ (X ++ ((L, .ns m) :: R)) s' → (A.deeper (envOf qual scope L f cdv)).frames = some (envOf qual scope L f cdv :: l) → FrOn (envOf qual scope L f cdv :: l) ((L, .ns m) :: R) → wpAny (model pg w) (A.deeper (envOf qual scope L f cdv)) (execs body (envOf qual scope L f cdv)) (fun fl s'' => Q (retv fl) s'')
      (fun e s'' => wpAny (model pg w) (A.deeper (envOf qual scope L f cdv)) (leaving (envOf qual scope L f cdv) e) (fun _ s₃ => E e s₃) (fun e' s₃ => E e' s₃) s'') s')
    (hloc : (m.reverse.all fun y => decide (scope.names.lookup y.1 = some .local)) = true := by rfl) (hcell : (scope.names.all fun y => !(y.2 == .cell)) = true := by rfl)
    (hco : scope.isCoroutine = false := by rfl) (hgen : scope.isGenerator = false := by rfl) (hk : scope.kind = .function := by rfl) :
    wpAny (model pg w) A (call (.ref f) args) Q E s :=
  wpAny_call (defC S hA ho hcd hbind (fun L s' S' => by
    rw [List.reverse_reverse] at S'
    have S2 := S'.inn
    refine h L s' S2 (Around.frames_deeper hfr) ?_
    exact (hF.sub fun p hp z => ⟨z.choose, by rw [← z.choose_spec]; exact .tail _ hp⟩).cons hk rfl (.head _)) hloc hcell hco hgen hk)
end
end Mine
end
section
open PySem PySem.W PySem.Calls PyProof.Rows
set_option maxRecDepth 100000
namespace Mine
set_option linter.unusedVariables false
section
variable {w : World} {s₀ s : Shared} {W W' X R : Led} {A : Around} {E : Value → Shared → Prop} {env : Env} {σ : Dm} {b : Bool} {Q : Value → Shared → Prop} {l : List Env}
noncomputable def Lv (w : World) (s₀ : Shared) (W : Led) (E : Value → Shared → Prop) : Prop := ∀ e s', Sp w s₀ W s' → Fly s₀ W e s' → E (.ref e) s'
theorem out_sub {X R : Led} {p : Addr × SO} : ∀ q ∈ X ++ R, ∃ r ∈ X ++ (p :: R), r.1 = q.1 := fun q hq => ⟨q, List.mem_append.mpr ((List.mem_append.mp hq).imp_right (List.mem_cons_of_mem _)), rfl⟩
theorem check_room_die {A₀ : Ad} {n : Int} {t : Tok} (S : Sp w s₀ (objs σ ++ R) s) (hA : Rm A 7) (hfr : A.frames = some l) (hF : FrOn l R) (hn : 7 < n) (h : Lv w s₀ (objs σ ++ R) E) (eA₀ : σ.A = A₀ := by rfl) : wpAny (model pg w) A (call (.ref 292) [.ref A₀.ctr, .int n t]) Q E s := by
  subst eA₀
  refine callX [(k "size", .int n t), (k "counter", .ref σ.A.ctr)] S hA.lt hfr hF rfl (by kernel_rfl) (BindsTo.of_eq rfl) (fun L s1 S1 f1 f2 => ?_)
  refine wpAny_execs_cons (wpAny_If (wpAny_isTrue_Compare1 (nmL S1 (mR (.head _)) rfl (Attribute_any_ (Attribute_any_ (Attribute_any_ (nmL S1 (mR (.head _)) rfl ?_)))))))
  refine getAr S1 (mF (i := 3) rfl) (mF (i := 4) rfl) rfl (by kernel_rfl) fun s2 S2 => ?_
  refine getAr S2 (mF (i := 7) rfl) (mF (i := 8) rfl) rfl (by kernel_rfl) fun s3 S3 => ?_
  refine getA S3 (mF (i := 9) rfl) (mF (i := 10) rfl) rfl (by kernel_rfl) fun v4 s4 ev S4 => ?_
  obtain ⟨t4, rfl⟩ := er_int ev
  refine PyProof.Rows.gt_int (wpAny_truthy_bool ?_)
  rw [decide_eq_true (by lia)]
  refine wpAny_execs_cons (raise_die (hA.2.2) (callN (nmG (v := .ref 266) S4 (by kernel_rfl) (df1 S4 (by kernel_rfl) (nmG (v := .str (k "Out of memory!") 547) S4 (by kernel_rfl) ⟨⟨_, S4⟩, die_made S4 ((hA.down _).le (by decide)) fun e s5 S5 => ⟨e, _, rfl, S5, .head _, ?_⟩⟩)))))
  exact leave1 S5 f1 f2.on rfl fun s6 S6 F6 => h e s6 S6.out1 (F6.sub out_sub)
theorem push_die {ds : List DV} {vl : Addr} (S : Sp w s₀ (objs σ ++ R) s) (hA : Rm A 9) (hfr : A.frames = some l) (hF : FrOn l R) (hl : (vl, .list (ds.map DV.val)) ∈ R) (hz2 : (σ.it b).length ≤ 900) (hz3 : ds.length ≤ 900) (hz : 7 < (σ.it b).length + ds.length)
    (h : Lv w s₀ (objs σ ++ R) E) :
    wpAny (model pg w) A (call (.ref 299) [.ref σ.A.ctr, .ref (σ.A.ar b), .ref vl]) Q E s := by
  refine callX [(k "values", .ref vl), (k "array", .ref (σ.A.ar b)), (k "counter", .ref σ.A.ctr)] S hA.lt hfr hF rfl (by kernel_rfl) (BindsTo.of_eq rfl) (fun L s1 S1 f1 f2 => ?_)
  refine wpAny_execs_cons (wpAny_Expr (callN (nmG (v := .ref 292) S1 (by kernel_rfl) (df2 S1 (by kernel_rfl) (nmL S1 (mR (.head _)) rfl ?_)))))
  refine wpAny_BinOp (callN (nmB (v := .builtin "len") S1 (by kernel_rfl) (by kernel_rfl) (bi1 (Attribute_any_ (nmL S1 (mR (.head _)) rfl (getItems S1 fun s2 S2 => ?_))))))
  refine lenL S2 arL (fun t s3 S3 => ?_) (by rw [List.length_map]; lia)
  refine callN (nmB (v := .builtin "len") S3 (by kernel_rfl) (by kernel_rfl) (bi1 (nmL S3 (mR (.head _)) rfl ?_)))
  refine lenL S3 (mR (.tail _ hl)) (fun t s4 S4 => ?_) (by rw [List.length_map]; lia)
  refine PyProof.Rows.add_int ⟨⟨_, S4.toks _⟩, check_room_die (S4.toks _) ((hA.down _).le (by decide)) f1 f2 (by simp only [List.length_map]; lia) fun e s5 S5 F5 => ?_⟩
  exact leaveNext S5 F5 f1 f2.on rfl fun s6 S6 F6 => h e s6 S6.out1 (F6.sub out_sub)
theorem unshift_die {ds : List DV} {vl : Addr} (S : Sp w s₀ (objs σ ++ R) s) (hA : Rm A 9) (hfr : A.frames = some l) (hF : FrOn l R) (hl : (vl, .list (ds.map DV.val)) ∈ R) (hz2 : (σ.it b).length ≤ 900) (hz3 : ds.length ≤ 900) (hz : 7 < (σ.it b).length + ds.length)
    (h : Lv w s₀ (objs σ ++ R) E) :
    wpAny (model pg w) A (call (.ref 306) [.ref σ.A.ctr, .ref (σ.A.ar b), .ref vl]) Q E s := by
  refine callX [(k "values", .ref vl), (k "array", .ref (σ.A.ar b)), (k "counter", .ref σ.A.ctr)] S hA.lt hfr hF rfl (by kernel_rfl) (BindsTo.of_eq rfl) (fun L s1 S1 f1 f2 => ?_)
  refine wpAny_execs_cons (wpAny_Expr (callN (nmG (v := .ref 292) S1 (by kernel_rfl) (df2 S1 (by kernel_rfl) (nmL S1 (mR (.head _)) rfl ?_)))))
  refine wpAny_BinOp (callN (nmB (v := .builtin "len") S1 (by kernel_rfl) (by kernel_rfl) (bi1 (Attribute_any_ (nmL S1 (mR (.head _)) rfl (getItems S1 fun s2 S2 => ?_))))))
  refine lenL S2 arL (fun t s3 S3 => ?_) (by rw [List.length_map]; lia)
  refine callN (nmB (v := .builtin "len") S3 (by kernel_rfl) (by kernel_rfl) (bi1 (nmL S3 (mR (.head _)) rfl ?_)))
  refine lenL S3 (mR (.tail _ hl)) (fun t s4 S4 => ?_) (by rw [List.length_map]; lia)
  refine PyProof.Rows.add_int ⟨⟨_, S4.toks _⟩, check_room_die (S4.toks _) ((hA.down _).le (by decide)) f1 f2 (by simp only [List.length_map]; lia) fun e s5 S5 F5 => ?_⟩
  exact leaveNext S5 F5 f1 f2.on rfl fun s6 S6 F6 => h e s6 S6.out1 (F6.sub out_sub)
theorem splice_die {ds : List DV} {vl : Addr} {i : Int} {l' : Option Int} {lv : Value} {u : Tok} {p c : Nat} (S : Sp w s₀ (objs σ ++ R) s) (hA : Rm A 10) (hfr : A.frames = some l) (hF : FrOn l R) (hl : (vl, .list (ds.map DV.val)) ∈ R)
    (hi : 0 ≤ i ∨ 0 ≤ i + (σ.it b).length) (hp : plc (σ.it b).length i = p) (hc : cntI (σ.it b).length p l' = c) (hpc : p + c ≤ (σ.it b).length) (hv : er lv = lvV l')
    (hz : 7 < (σ.it b).length - c + ds.length) (hz2 : (σ.it b).length ≤ 900) (hz3 : ds.length ≤ 900) (h : Lv w s₀ (objs σ ++ R) E) :
    wpAny (model pg w) A (call (.ref 341) [.ref σ.A.ctr, .ref (σ.A.ar b), .int i u, lv, .ref vl]) Q E s := by
  refine callX [(k "values", .ref vl), (k "length", lv), (k "offset", .int i u), (k "array", .ref (σ.A.ar b)), (k "counter", .ref σ.A.ctr)] S hA.lt hfr hF rfl (by kernel_rfl) (BindsTo.of_eq rfl) (fun L s1 S1 f1 f2 => ?_)
  refine wpAny_execs_cons (asgL S1 (callN (nmB (v := .builtin "len") S1 (by kernel_rfl) (by kernel_rfl) (bi1 (Attribute_any_ (nmL S1 (mR (.head _)) rfl (getItems S1 fun s2 S2 => ?_)))))))
  refine lenL S2 arL (fun t s3 S3 => ⟨_, _, L, _, S3, uR .head, rfl, fun s4 S4 => ?_⟩) (by rw [List.length_map]; lia)
  rw [List.length_map] at S4
  refine wpAny_execs_cons (asgL S4 (callN (nmG (v := .ref 327) S4 (by kernel_rfl) (df2 S4 (by kernel_rfl) (nmL S4 (mR (.head _)) rfl (nmL S4 (mR (.head _)) rfl ⟨⟨_, S4⟩, ?_⟩))))))
  refine splice_place_spec S4 ((hA.down _).le (by decide)) hi fun t s5 S5 => ⟨_, _, L, _, S5, uR .head, rfl, fun s6 S6 => ?_⟩
  rw [hp] at S6
  refine wpAny_execs_cons (asgL S6 (callN (nmG (v := .ref 334) S6 (by kernel_rfl) (df3 S6 (by kernel_rfl) (nmL S6 (mR (.head _)) rfl (nmL S6 (mR (.head _)) rfl (nmL S6 (mR (.head _)) rfl ⟨⟨_, S6⟩, ?_⟩)))))))
  refine splice_count_spec S6 ((hA.down _).le (by decide)) hv fun t s7 S7 => ⟨_, _, L, _, S7, uR .head, rfl, fun s8 S8 => ?_⟩
  rw [hc] at S8
  refine wpAny_execs_cons (wpAny_Expr (callN (nmG (v := .ref 292) S8 (by kernel_rfl) (df2 S8 (by kernel_rfl) (nmL S8 (mR (.head _)) rfl ?_)))))
  refine wpAny_BinOp (wpAny_BinOp (nmL S8 (mR (.head _)) rfl (nmL S8 (mR (.head _)) rfl (PyProof.Rows.sub_int ?_))))
  refine callN (nmB (v := .builtin "len") (S8.toks _) (by kernel_rfl) (by kernel_rfl) (bi1 (nmL (S8.toks _) (mR (.head _)) rfl ?_)))
  refine lenL (S8.toks _) (mR (.tail _ hl)) (fun t s9 S9 => ?_) (by rw [List.length_map]; lia)
  refine PyProof.Rows.add_int ⟨⟨_, S9.toks _⟩, check_room_die (S9.toks _) ((hA.down _).le (by decide)) f1 f2.ns (by simp only [List.length_map]; lia) fun e s10 S10 F10 => ?_⟩
  exact leaveNext S10 F10 f1 f2.ns.on rfl fun s11 S11 F11 => h e s11 S11.out1 (F11.sub out_sub)
end
end Mine
end
section
open PySem PySem.W PySem.Calls PyProof.Rows
set_option maxRecDepth 100000
namespace Mine
set_option linter.unusedVariables false
section
variable {w : World} {s₀ s : Shared} {W W' X R : Led} {A : Around} {E : Value → Shared → Prop} {env : Env} {σ : Dm} {b : Bool} {l : List Env}
theorem flight {e : Addr} {Q : Unit → Shared → Prop} (S : Sp w s₀ W s) (F : Fly s₀ W e s) (hQ : ∀ s', Sp w s₀ W s' → Q () s') : wpAny (model pg w) A (setFlight (.ref e) none) Q E s := by
  obtain ⟨⟨oe, vs, T, oT, ts, he, hc, hd, h1, hTe, hT, hdT, h3, hT0, hTW⟩, he0, heW⟩ := F
  unfold setFlight
  refine wpAny_bind (wpAny_field he hd h1 ?_)
  rw [if_pos (show (Value.ref T != Value.none) = true from by simp)]
  refine wpAny_setField hT hdT (Array.getElem?_eq_some_iff.mp h3).1 ?_
  have other : ∀ b v, b ≠ T → (s.heap.update T (Obj.mapFields (·.setIfInBounds 3 v))).get? b = s.heap.get? b := fun b v hb => Heap.get?_update_other _ _ (Ne.symm hb)
  refine hQ _ ⟨S.gd, S.rest, fun b o hb => (other b _ fun q => by rw [q, hT0] at hb; cases hb).trans (S.keep b o hb), fun p hp => let ⟨o, a, z⟩ := S.at_ p hp; ⟨o, (other _ _ (hTW p hp)).trans a, z⟩, S.nodup, S.out, ?_⟩
  have := Heap.SameBut.update s.heap T (Obj.mapFields (·.setIfInBounds 3 Value.none))
  exact Nat.le_trans S.big (Nat.le_of_eq this.1.symm)
theorem catch_die {a L : Addr} {outer : List Env} {b₀ : Stmt} {body : List Stmt} {np hpos : Pos} {Q : Flow → Shared → Prop} (S : Sp w s₀ W s) (F : Fly s₀ W a s) (hfr : A.frames = some (env :: outer)) (hF : FrOn (env :: outer) W) (hf : env.frame = some L)
    (hq : ∀ s', Sp w s₀ W s' → wpAny (model pg w) (A.mark (some (.ref a))) (execs (b₀ :: body) env) Q (fun _ _ => False) s')
    (hg : env.globals = mainGlobals := by rfl) (hk : env.scope.kind = .function := by rfl) (hl : env.kindOf (k "Die") = some .globalImplicit := by rfl) :
    wpAny (model pg w) A (noteFrame (.ref a) env) (fun _ s₂ => wpAny (model pg w) A (setFlight (.ref a) none) (fun _ s₃ => wpAny (model pg w) A (handleBy (.ref a) env [.ExceptHandler (some (.Name (k "Die") np)) none (b₀ :: body) hpos]) Q E s₃) E s₂) E s := by
  obtain ⟨nm, q, N, bs, hdct, sn, sub, ab, col, dd, k0, k1, k2, k3, k5, hC⟩ := die_cls w.params
  refine noteNext S F hfr hF hf fun s1 S1 F1 => ?_
  refine wpAny_handleBy_cons (codeAny_handlers_test (nmG (v := .ref 266) S1 (by kernel_rfl) ?_ hg hk hl)) (by intro z; cases z)
  obtain ⟨⟨oe, vs, T, oT, ts, he, hc, hd, h1, hTe, hT, hdT, h3, hT0, hTW⟩, he0, heW⟩ := id F1
  obtain ⟨hh, g, d, t, os⟩ := s1
  refine wpAny_excMatches_sub_self (bm := dieMro) (S1.K 266 _ hC) he hc (by decide) ?_
  refine codeAny_handlers_suite (flight S1 F1 fun s2 S2 => ?_)
  exact wpAny_mono (hq s2 S2) (fun f s3 z => z) fun _ _ z => z.elim
end
end Mine
end
section
open PySem PySem.W PySem.Calls PyProof.Rows
set_option maxRecDepth 100000
namespace Mine
set_option linter.unusedVariables false
section
variable {w : World} {s₀ s : Shared} {W W' X R : Led} {A : Around} {E : Value → Shared → Prop} {env : Env} {σ : Dm} {b : Bool} {Q : Value → Shared → Prop} {l : List Env}
theorem resize_die {A₀ : Ad} {n : Nat} {i m : Int} {t u : Tok} (S : Sp w s₀ (objs σ ++ R) s) (hA : Rm A 8) (hfr : A.frames = some l) (hF : FrOn l R) (hi : max i 0 = n) (hm : m < (n : Int)) (h : Lv w s₀ (objs σ ++ R) E) (eA₀ : σ.A = A₀ := by rfl) : wpAny (model pg w) A (call (.ref 376) [.ref A₀.ctr, .ref (A₀.ar b), .int i t, .int m u]) Q E s := by
  subst eA₀
  refine callX [(k "most", .int m u), (k "size", .int i t), (k "array", .ref (σ.A.ar b)), (k "counter", .ref σ.A.ctr)] S hA.lt hfr hF rfl (by kernel_rfl) (BindsTo.of_eq rfl) (fun L s1 S1 f1 f2 => ?_)
  refine wpAny_execs_cons (asgL S1 (callN (nmB (v := .builtin "max") S1 (by kernel_rfl) (by kernel_rfl) (bi2 (nmL S1 (mR (.head _)) rfl (wpAny_Constant_int ?_))))))
  refine maxI (S1.toks _) (mR (.head _)) hA.2.2 fun t2 s2 S2 => ⟨_, _, L, _, S2, uR .head, rfl, fun s3 S3 => ?_⟩
  rw [hi] at S3
  refine wpAny_execs_cons (wpAny_If (wpAny_isTrue_Compare1 (nmL S3 (mR (.head _)) rfl (nmL S3 (mR (.head _)) rfl (PyProof.Rows.gt_int (wpAny_truthy_bool ?_))))))
  rw [decide_eq_true (by lia)]
  refine wpAny_execs_cons (raise_die (hA.2.2) (callN (nmG (v := .ref 266) S3 (by kernel_rfl) (df1 S3 (by kernel_rfl) (nmG (v := .str (k "Out of memory!") 547) S3 (by kernel_rfl) ⟨⟨_, S3⟩, die_made S3 ((hA.down _).le (by decide)) fun e s5 S5 => ⟨e, _, rfl, S5, .head _, ?_⟩⟩)))))
  exact leave1 S5 f1 f2.ns.on rfl fun s6 S6 F6 => h e s6 S6.out1 (F6.sub out_sub)
theorem resized_die {A₀ : Ad} {n : Nat} {i : Int} {t : Tok} (S : Sp w s₀ (objs σ ++ R) s) (hA : Rm A 10) (hfr : A.frames = some l) (hF : FrOn l R) (hi : max i 0 = n) (hm : 7 < (n : Int)) (h : ∀ s', Sp w s₀ (objs σ ++ R) s' → Q .none s') (eA₀ : σ.A = A₀ := by rfl) : wpAny (model pg w) A (call (.ref 630) [.ref A₀.cup, .ref (A₀.ar b), .int i t]) Q E s := by
  subst eA₀
  refine callX [(k "size", .int i t), (k "array", .ref (σ.A.ar b)), (k "cup", .ref σ.A.cup)] S hA.lt hfr hF rfl (by kernel_rfl) (BindsTo.of_eq rfl) (fun L s1 S1 f1 f2 => ?_)
  refine wpAny_execs_cons (wpAny_Try_except ?_)
  refine wpAny_execs_cons (wpAny_Expr (callN (nmG (v := .ref 376) S1 (by kernel_rfl) (df4 S1 (by kernel_rfl) (Subscript_ (nmL S1 (mR (.head _)) rfl (wpAny_Constant_str (gdr (S1.toks _) (cupD' rfl) rfl fun s2 S2 => ?_))))))))
  refine nmL S2 (mR (.head _)) rfl (nmL S2 (mR (.head _)) rfl (nmG (v := .int 7 975) S2 (by kernel_rfl) ⟨⟨_, S2⟩, ?_⟩))
  refine resize_die S2 ((hA.down _).le (by decide)) f1 f2 hi hm fun e s3 S3 F3 => ?_
  refine catch_die S3 F3 f1 f2.on rfl fun s4 S4 => ?_
  exact wpAny_execs_cons (wpAny_Return_some (wpAny_Constant_none (h _ S4.out1)))
end
end Mine
end
section
open PySem PySem.W PySem.Calls PyProof.Rows
set_option maxRecDepth 100000
namespace Mine
set_option linter.unusedVariables false
section
variable {w : World} {s₀ s : Shared} {W W' X R : Led} {A : Around} {E : Value → Shared → Prop} {env : Env} {σ : Dm} {b : Bool} {Q : Value → Shared → Prop} {l : List Env}
theorem FrOn.ins {l : List Env} {p q : Addr × SO} (h : FrOn l (p :: R)) : FrOn l (p :: q :: R) := h.sub fun x hx z => by
  rcases List.mem_cons.mp hx with rfl | hx
  · exact ⟨z.choose, by rw [← z.choose_spec]; exact .head _⟩
  · exact ⟨z.choose, by rw [← z.choose_spec]; exact .tail _ (.tail _ hx)⟩
theorem lsplice_dx {A₀ : Ad} {ds : List DV} {vl : Addr} {p c : Nat} {t u : Tok} (S : Sp w s₀ (objs σ ++ R) s) (hA : Rm A 12) (hfr : A.frames = some l) (hF : FrOn l R) (hb : Bd σ 0 2) (hl : (vl, .list (ds.map DV.val)) ∈ R) (hpc : p + c ≤ (σ.tv b).length) (hz3 : ds.length ≤ 900) (hz : 7 < (σ.tv b).length - c + ds.length)
    (h : ∀ σ' s', Nx σ σ' 0 2 → (∀ b, σ'.tv b = σ.tv b) → Sp w s₀ (objs σ' ++ R) s' → Q .none s') (eA₀ : σ.A = A₀ := by rfl) :
    wpAny (model pg w) A (call (.ref 616) [.ref A₀.cup, .ref (A₀.ar b), .int p t, .int c u, .ref vl]) Q E s := by
  subst eA₀
  rw [tv_len] at hpc hz
  have hz2 := hb.l b
  refine callX [(k "values", .ref vl), (k "count", .int c u), (k "begin", .int p t), (k "array", .ref (σ.A.ar b)), (k "cup", .ref σ.A.cup)] S hA.lt hfr hF rfl (by kernel_rfl) (BindsTo.of_eq rfl) (fun L s1 S1 f1 f2 => ?_)
  refine wpAny_execs_cons (Assign_Tuple (callN (nmG (v := .ref 609) S1 (by kernel_rfl) (df4 S1 (by kernel_rfl) (nmL S1 (mR (.head _)) rfl ?_)))))
  refine callN (nmB (v := .builtin "len") S1 (by kernel_rfl) (by kernel_rfl) (bi1 (Attribute_any_ (nmL S1 (mR (.head _)) rfl (getItems S1 fun s2 S2 => ?_)))))
  refine lenL S2 arL (fun t3 s3 S3 => nmL S3 (mR (.head _)) rfl (nmL S3 (mR (.head _)) rfl ⟨⟨_, S3⟩, ?_⟩)) (by rw [List.length_map]; lia)
  rw [List.length_map]
  refine form_spec S3 ((hA.down _).le (by decide)) (hb.tape (Int.le_refl _)) hpc hz2 fun i lv tp sc r s4 hi hp hc hsc r1 r2 S4 => ?_
  have S4 := S4.swap
  refine asT2 S4 hA.2.2 (mR (.tail _ (.head _))) fun pv lvv s5 hpv hlv S5 => ?_
  obtain ⟨t5, rfl⟩ := er_int hpv
  refine wpAny_execs_cons (wpAny_Try_except (wpAny_execs_cons (wpAny_Return_some (callN (nmG (v := .ref 602) S5 (by kernel_rfl) (df1 S5 (by kernel_rfl) (callN (nmG (v := .ref 341) S5 (by kernel_rfl) (df5 S5 (by kernel_rfl) ?_)))))))))
  refine Subscript_ (nmL S5 (mR (.head _)) rfl (wpAny_Constant_str (gdr (S5.toks _) (cupD (σ := σ.rl sc r)) rfl fun s6 S6 => ?_)))
  refine nmL S6 (mR (.head _)) rfl (nmL S6 (mR (.head _)) rfl (nmL S6 (mR (.head _)) rfl (nmL S6 (mR (.head _)) rfl ⟨⟨_, S6⟩, ?_⟩)))
  have eit : (σ.rl sc r).it b = σ.it b := by cases b <;> rfl
  refine splice_die (σ := σ.rl sc r) (b := b) (l' := lv) S6 ((hA.down _).le (by decide)) f1 f2.ns.ins (.tail _ (.tail _ hl)) (by rw [eit]; exact hi) (by rw [eit]; exact hp) (by rw [eit]; exact hc) (by rw [eit]; exact hpc) hlv (by rw [eit]; exact hz) (by rw [eit]; exact hz2) hz3 fun e s7 S7 F7 => ?_
  refine catch_die S7 F7 f1 f2.ns.ins.on rfl fun s8 S8 => ?_
  exact wpAny_execs_cons (wpAny_Return_some (wpAny_Constant_none (h _ s8 (rl_nx hb.wf hsc r1 r2) (fun _ => tv_rl) S8.out1.out1)))
end
end Mine
end
section
open PySem PySem.W PySem.Calls PyProof.Rows
set_option maxRecDepth 100000
namespace Mine
set_option linter.unusedVariables false
section
variable {w : World} {s₀ s : Shared} {W W' X R : Led} {A : Around} {E : Value → Shared → Prop} {env : Env} {σ : Dm} {b : Bool} {Q : Value → Shared → Prop} {l : List Env}
noncomputable def Works (w : World) (s₀ : Shared) (σ : Dm) (b : Bool) (f vl : Addr) (xs : List Value) (n : Nat) (P : Dm → Prop) : Prop := ∀ {A' : Around} {E' : Value → Shared → Prop} {Q' : Value → Shared → Prop} {s1 : Shared} {R' : Led}, Sp w s₀ (objs σ ++ R') s1 → Rm A' 10 → (vl, SO.list xs) ∈ R' →
  (∀ σ' v s2, P σ' → (v = .none ∨ ∃ t, v = .int n t) → (σ'.tv b).length = n → σ'.A = σ.A → Sp w s₀ (objs σ' ++ R') s2 → Q' v s2) → wpAny (model pg w) A' (call (.ref f) [.ref σ.A.ctr, .ref (σ.A.ar b), .ref vl]) Q' E' s1
noncomputable def Dies (w : World) (s₀ : Shared) (σ : Dm) (b : Bool) (f vl : Addr) (xs : List Value) : Prop := ∀ {A' : Around} {E' : Value → Shared → Prop} {Q' : Value → Shared → Prop} {s1 : Shared} {R' : Led} {l' : List Env}, Sp w s₀ (objs σ ++ R') s1 → Rm A' 10 → (vl, SO.list xs) ∈ R' → A'.frames = some l' → FrOn l' R' →
  Lv w s₀ (objs σ ++ R') E' → wpAny (model pg w) A' (call (.ref f) [.ref σ.A.ctr, .ref (σ.A.ar b), .ref vl]) Q' E' s1
theorem deed_ok {A₀ : Ad} {f vl : Addr} {xs : List Value} {n : Nat} {P : Dm → Prop} (S : Sp w s₀ (objs σ ++ R) s) (hA : Rm A 12) (hk : keepIn (K w.params) (.ref f) = true) (hl : (vl, SO.list xs) ∈ R) (hz : n ≤ 900) (hw : Works w s₀ σ b f vl xs n P)
    (h : ∀ σ' t s', P σ' → Sp w s₀ (objs σ' ++ R) s' → Q (.int n t) s') (eA₀ : σ.A = A₀ := by rfl) : wpAny (model pg w) A (call (.ref 623) [.ref A₀.cup, .ref f, .ref (A₀.ar b), .ref vl]) Q E s := by
  subst eA₀
  refine callS [(k "values", .ref vl), (k "array", .ref (σ.A.ar b)), (k "work", .ref f), (k "cup", .ref σ.A.cup)] S hA.lt rfl (by kernel_rfl) (BindsTo.of_eq rfl) (fun L s1 S1 => ?_)
  refine wpAny_execs_cons (wpAny_Try_except ?_)
  refine wpAny_execs_cons ?_
  refine asgL S1 ?_
  refine callN ?_
  refine nmL S1 (mR (.head _)) rfl ?_
  refine df3 S1 hk ?_
  refine Subscript_ (nmL S1 (mR (.head _)) rfl (wpAny_Constant_str (gdr (S1.toks _) (cupD' rfl) rfl fun s2 S2 => ?_)))
  refine nmL S2 (mR (.head _)) rfl (nmL S2 (mR (.head _)) rfl ⟨⟨_, S2⟩, hw S2 ((hA.down _).le (by decide)) (.tail _ hl) fun σ' v s3 hP hv hn hA' S3 => ?_⟩)
  refine ⟨_, _, L, _, S3, uR .head, rfl, fun s4 S4 => ?_⟩
  refine wpAny_execs_nil (wpAny_execs_nil ?_)
  refine wpAny_execs_cons (wpAny_Return_some (IfExp_ (wpAny_isTrue_Compare1 (nmL S4 (mR (.head _)) rfl (wpAny_Constant_none ?_)))))
  rcases hv with rfl | ⟨t, rfl⟩
  · refine is_none_gen (wpAny_truthy_bool ?_)
    refine callN (nmB (v := .builtin "len") S4 (by kernel_rfl) (by kernel_rfl) (bi1 (Attribute_any_ (nmL S4 (mR (.head _)) rfl (getItemsB b S4 (fun s5 S5 => ?_) hA'))))) 
    refine lenItems b S5 (by rw [← tv_len, hn]; exact hz) fun t s6 S6 => ?_
    rw [hn]
    exact h σ' t s6 hP S6.out1
  · refine is_none_gen (wpAny_truthy_bool ?_)
    exact nmL S4 (mR (.head _)) rfl (h σ' _ s4 hP S4.out1)
theorem deed_die {A₀ : Ad} {f vl : Addr} {xs : List Value} (S : Sp w s₀ (objs σ ++ R) s) (hA : Rm A 12) (hfr : A.frames = some l) (hF : FrOn l R) (hk : keepIn (K w.params) (.ref f) = true) (hl : (vl, SO.list xs) ∈ R) (hw : Dies w s₀ σ b f vl xs)
    (h : ∀ s', Sp w s₀ (objs σ ++ R) s' → Q .none s') (eA₀ : σ.A = A₀ := by rfl) : wpAny (model pg w) A (call (.ref 623) [.ref A₀.cup, .ref f, .ref (A₀.ar b), .ref vl]) Q E s := by
  subst eA₀
  refine callX [(k "values", .ref vl), (k "array", .ref (σ.A.ar b)), (k "work", .ref f), (k "cup", .ref σ.A.cup)] S hA.lt hfr hF rfl (by kernel_rfl) (BindsTo.of_eq rfl) (fun L s1 S1 f1 f2 => ?_)
  refine wpAny_execs_cons (wpAny_Try_except ?_)
  refine wpAny_execs_cons ?_
  refine asgL S1 ?_
  refine callN ?_
  refine nmL S1 (mR (.head _)) rfl ?_
  refine df3 S1 hk ?_
  refine Subscript_ (nmL S1 (mR (.head _)) rfl (wpAny_Constant_str (gdr (S1.toks _) (cupD' rfl) rfl fun s2 S2 => ?_)))
  refine nmL S2 (mR (.head _)) rfl (nmL S2 (mR (.head _)) rfl ⟨⟨_, S2⟩, hw S2 ((hA.down _).le (by decide)) (.tail _ hl) f1 f2 fun e s3 S3 F3 => ?_⟩)
  refine catch_die S3 F3 f1 f2.on rfl fun s4 S4 => ?_
  exact wpAny_execs_cons (wpAny_Return_some (wpAny_Constant_none (h _ S4.out1)))
end
end Mine
end
section
open PySem PySem.W PySem.Calls PyProof.Rows
set_option maxRecDepth 100000
namespace Mine
set_option linter.unusedVariables false
section
variable {w : World} {s₀ s : Shared} {W W' X R : Led} {A : Around} {E : Value → Shared → Prop} {env : Env} {σ : Dm} {b : Bool} {Q : Value → Shared → Prop} {l : List Env}
noncomputable def Gr (σ : Dm) (b : Bool) (a : Nat) (ys : List TV) : Dm → Prop := fun σ' => Nx σ σ' a 0 ∧ σ'.tv b = ys ∧ σ'.tv (!b) = σ.tv (!b)
theorem push_works {ds : List DV} {vl : Addr} (hb : Bd σ ds.length 0) (ok : ∀ x ∈ ds, x.ok σ) (hz : (σ.tv b).length + ds.length ≤ 7) : Works w s₀ σ b 299 vl (ds.map DV.val) ((σ.tv b).length + ds.length) (Gr σ b ds.length (σ.tv b ++ ds.map DV.told)) := fun {A' E' Q' s1 R'} S1 hA hl h => by
  have hz' := hz
  rw [tv_len] at hz'
  refine push_ok S1 (hA.le (by decide)) hl ok hz' fun cs t s' hn S' => ?_
  rw [push_eq] at S'
  have n1 := spliced_nx (b := b) (p := (σ.it b).length) (c := 0) hb.wf hn ok (by lia) (by lia)
  have e1 : (σ.spliced b ds cs (σ.it b).length 0).tv b = σ.tv b ++ ds.map DV.told := by
    rw [tv_spliced hb.wf hn, Nat.add_zero, ← tv_len, List.take_length, List.drop_length, List.append_nil]
  exact h _ _ s' ⟨n1, e1, tv_other hb.wf⟩ (.inr ⟨t, by rw [tv_len]⟩) (by rw [e1, List.length_append, List.length_map]) n1.A S'
theorem unshift_works {ds : List DV} {vl : Addr} (hb : Bd σ ds.length 0) (ok : ∀ x ∈ ds, x.ok σ) (hz : (σ.tv b).length + ds.length ≤ 7) : Works w s₀ σ b 306 vl (ds.map DV.val) ((σ.tv b).length + ds.length) (Gr σ b ds.length (ds.map DV.told ++ σ.tv b)) := fun {A' E' Q' s1 R'} S1 hA hl h => by
  have hz' := hz
  rw [tv_len] at hz'
  refine unshift_ok S1 (hA.le (by decide)) hl ok hz' fun cs t s' hn S' => ?_
  rw [unshift_eq] at S'
  have n1 := spliced_nx (b := b) (p := 0) (c := 0) hb.wf hn ok (by lia) (by lia)
  have e1 : (σ.spliced b ds cs 0 0).tv b = ds.map DV.told ++ σ.tv b := by
    rw [tv_spliced hb.wf hn, Nat.add_zero, List.take_zero, List.nil_append, List.drop_zero]
  exact h _ _ s' ⟨n1, e1, tv_other hb.wf⟩ (.inr ⟨t, by rw [tv_len]⟩) (by rw [e1, List.length_append, List.length_map]; lia) n1.A S'
theorem fill_works {ds : List DV} {vl : Addr} (hb : Bd σ ds.length 0) (ok : ∀ x ∈ ds, x.ok σ) (hz : ds.length ≤ 7) : Works w s₀ σ b 390 vl (ds.map DV.val) ds.length (Gr σ b ds.length (ds.map DV.told)) := fun {A' E' Q' s1 R'} S1 hA hl h => by
  exact fill_nx b S1 hA hb hl ok hz fun σ' s' n1 e1 e2 S' => h σ' .none s' ⟨n1, e1, e2⟩ (.inl rfl) (by rw [e1, List.length_map]) n1.A S'
theorem push_dies {ds : List DV} {vl : Addr} (hb : Bd σ 0 0) (hz3 : ds.length ≤ 900) (hz : 7 < (σ.tv b).length + ds.length) : Dies w s₀ σ b 299 vl (ds.map DV.val) := fun {A' E' Q' s1 R' l'} S1 hA hl hfr hF h =>
  push_die S1 (hA.le (by decide)) hfr hF hl (hb.l b) hz3 (by rw [← tv_len]; exact hz) h
theorem unshift_dies {ds : List DV} {vl : Addr} (hb : Bd σ 0 0) (hz3 : ds.length ≤ 900) (hz : 7 < (σ.tv b).length + ds.length) : Dies w s₀ σ b 306 vl (ds.map DV.val) := fun {A' E' Q' s1 R' l'} S1 hA hl hfr hF h =>
  unshift_die S1 (hA.le (by decide)) hfr hF hl (hb.l b) hz3 (by rw [← tv_len]; exact hz) h
theorem chg_nx {its : List (Option It)} (hw : WF (σ.chg b [] [] its [])) : Nx σ (σ.chg b [] [] its []) 0 0 := by
  obtain ⟨e1, e2, e3, e4, e5, e6, e7, e8, e9⟩ := chg_f (σ := σ) (b := b) [] [] its []
  exact ⟨hw, e1, Int.le_of_eq e6.symm, by lia, by rw [e4]; exact Nat.le_refl _, fun x hx => ok_of hx e2⟩
theorem resz_nx {n : Nat} (h : WF σ) (hn : n ≤ 7) : Nx σ (σ.resz b n) 0 0 ∧ (σ.resz b n).tv b = (σ.tv b).take n ++ List.replicate (n - (σ.tv b).length) .none ∧ (σ.resz b n).tv (!b) = σ.tv (!b) := by
  by_cases q : n < (σ.it b).length
  · rw [resz_lt q]
    refine ⟨spliced_nx h trivial (fun x hx => by cases hx) (by lia) (by have := h.len b; simp; lia), ?_, tv_other h⟩
    rw [tv_spliced (ds := []) (cs := []) h trivial, show n + ((σ.it b).length - n) = (σ.tv b).length by rw [tv_len]; lia, List.drop_length, show n - (σ.tv b).length = 0 by rw [tv_len]; lia]
    simp
  · rw [resz_ge q]
    refine ⟨chg_nx (WF_grow h (by lia)), ?_, tv_other h⟩
    rw [tv_grow h, List.take_of_length_le (by rw [tv_len]; lia), tv_len]
theorem resized_ok {A₀ : Ad} {n : Nat} {i : Int} {t : Tok} (S : Sp w s₀ (objs σ ++ R) s) (hA : Rm A 10) (hb : Bd σ 0 0) (hi : max i 0 = n) (hm : n ≤ 7) (h : ∀ σ' t s', Gr σ b 0 ((σ.tv b).take n ++ List.replicate (n - (σ.tv b).length) .none) σ' → Sp w s₀ (objs σ' ++ R) s' → Q (.int n t) s') (eA₀ : σ.A = A₀ := by rfl) : wpAny (model pg w) A (call (.ref 630) [.ref A₀.cup, .ref (A₀.ar b), .int i t]) Q E s := by
  subst eA₀
  refine callS [(k "size", .int i t), (k "array", .ref (σ.A.ar b)), (k "cup", .ref σ.A.cup)] S hA.lt rfl (by kernel_rfl) (BindsTo.of_eq rfl) (fun L s1 S1 => ?_)
  refine wpAny_execs_cons (wpAny_Try_except ?_)
  refine wpAny_execs_cons (wpAny_Expr (callN (nmG (v := .ref 376) S1 (by kernel_rfl) (df4 S1 (by kernel_rfl) (Subscript_ (nmL S1 (mR (.head _)) rfl (wpAny_Constant_str (gdr (S1.toks _) (cupD' rfl) rfl fun s2 S2 => ?_))))))))
  refine nmL S2 (mR (.head _)) rfl (nmL S2 (mR (.head _)) rfl (nmG (v := .int 7 975) S2 (by kernel_rfl) ⟨⟨_, S2⟩, ?_⟩))
  obtain ⟨n1, e1, e2⟩ := resz_nx (b := b) hb.wf hm
  refine resize_ok S2 ((hA.down _).le (by decide)) hi (by lia) (by lia) (hb.wf.live b) (hb.wf.nodupB b) (hb.z b) (hb.l b) fun s3 S3 => ?_
  refine wpAny_execs_nil (wpAny_execs_nil ?_)
  refine wpAny_execs_cons (wpAny_Return_some (callN (nmB (v := .builtin "len") S3 (by kernel_rfl) (by kernel_rfl) (bi1 (Attribute_any_ (nmL S3 (mR (.head _)) rfl (getItemsB b S3 (fun s5 S5 => ?_) n1.A)))))))
  refine lenItems b S5 (by have := n1.wf.len b; lia) fun t s6 S6 => ?_
  rw [show ((σ.resz b n).tv b).length = n by rw [e1, List.length_append, List.length_take, List.length_replicate]; lia]
  exact h _ t s6 ⟨n1, e1, e2⟩ S6.out1
end
end Mine
end
section
open PySem PySem.W PySem.Calls PyProof.Rows
set_option maxRecDepth 100000
namespace Mine
set_option linter.unusedVariables false
section
variable {w : World} {s₀ s : Shared} {W W' X R : Led} {A : Around} {E : Value → Shared → Prop} {env : Env} {σ : Dm} {b : Bool} {Q : Value → Shared → Prop} {l : List Env}
theorem dictS {keys : List (Option Expr)} {values : List Expr} {pos : Pos} (S : Sp w s₀ W s)
    (h : ∀ d s1, Sp w s₀ ((d, .dict []) :: W) s1 → wpAny (model pg w) A (evalPairs (pairTrees keys values env pos)) (fun vs s₂ => ∃ X R fs, Sp w s₀ (X ++ ((d, .dict []) :: R)) s₂ ∧ allStrKeys vs = true ∧ (strPairs vs).map erp = fs ∧ keysOk fs = true ∧
      ∀ s₃, Sp w s₀ (X ++ ((d, .dict fs) :: R)) s₃ → Q (.ref d) s₃) E s1)
    (hall : keys.all (·.isSome) = true := by rfl) (hl : keys.length = values.length := by rfl) (h0 : keys ≠ [] := by simp) (hlen : keys.length ≤ 15 := by decide) : wpAny (model pg w) A (eval (.Dict keys values pos) env) Q E s := by
  refine wpAny_Dict_walk (knd := strKind pg w) hall hl h0 hlen ?_
  have S1 := S.push (t := s.toks) (o := { cls := .type "dict", data := .dict #[] }) (x := .dict []) ⟨[], 0, rfl, trivial⟩
  refine wpAny_mono (h _ _ S1) (fun vs s₂ z => ?_) fun _ _ e => e
  obtain ⟨X, R, fs, S2, hk, e, hn, z⟩ := z
  have hn1 := keysOk_nodup hn
  have hn2 : ((strPairs vs).map (·.1)).Nodup := by rw [← e, List.map_map] at hn1; exact hn1
  refine display_done_str hk hn2 (S2.idle (List.mem_append_right _ (.head _))) fun h' hd hs => ?_
  obtain ⟨o, o1, o2⟩ := dict_back hd
  rw [e] at o2
  exact z _ (S2.change' (Upd.right .head) hs o1 o2)
end
end Mine
end
section
open PySem PySem.W PySem.Calls PyProof.Rows
set_option maxRecDepth 100000
namespace Mine
set_option linter.unusedVariables false
set_option maxHeartbeats 4000000
section
variable {w : World} {s₀ s : Shared} {W W' X R : Led} {A : Around} {E : Value → Shared → Prop} {env : Env} {σ : Dm} {b : Bool} {Q : Value → Shared → Prop} {l : List Env}
theorem FrOn.into {l : List Env} {L : Addr} {m m' : List (Str × Value)} (h : FrOn l ((L, .ns m) :: R)) : FrOn l ((L, .ns m') :: (X ++ R)) := h.sub fun q hq z => by
  rcases List.mem_cons.mp hq with rfl | hq
  · exact ⟨m', .head _⟩
  · exact ⟨z.choose, by rw [← z.choose_spec]; exact .tail _ (List.mem_append_right _ hq)⟩
theorem ar_em (g n : Nat) : min (g : Int) (n : Int) = ((min g n : Nat) : Int) := by omega
theorem ar_eg (g n : Nat) : (g : Int) - ((min g n : Nat) : Int) = ((g - min g n : Nat) : Int) := (Int.ofNat_sub (Nat.min_le_left g n)).symm
theorem ar_es (g n : Nat) : (n : Int) - ((min g n : Nat) : Int) = ((n - min g n : Nat) : Int) := (Int.ofNat_sub (Nat.min_le_right g n)).symm
theorem ar_pc (g n : Nat) : min g n + (n - min g n) = n := Nat.add_sub_cancel' (Nat.min_le_right g n)
theorem ar_g (g n : Nat) : g - n = g - min g n := by omega
theorem ar_gg (g n : Nat) : n - (n - min g n) + (g - min g n) = g := by omega
theorem ar_ln {p c n d : Nat} (h : p + c ≤ n) : min p n + d + (n - (p + c)) = n - c + d := by omega
inductive GrZ (w : World) (s₀ : Shared) (σ : Dm) (L bl : Addr) (T R : Led) (s : Shared) : Prop
  | mk (σ3 : Dm) (m : List (Str × Value)) (u v : Value) (X : Led) (n3 : Nx σ σ3 20 40) (hs : Same σ3) (m1 : m.lookup (k "cup") = some (.ref σ.A.cup)) (m2 : m.lookup (k "one") = some (.ref (σ.A.ar false))) (m3 : m.lookup (k "other") = some (.ref (σ.A.ar true)))
      (m4 : m.lookup (k "before") = some (.ref bl)) (m5 : m.lookup (k "answer") = some v) (m6 : m.lookup (k "taken") = some u) (hv : (∃ l t, u = .ref l ∧ v = .int (σ3.tv true).length t) ∨ (u = .none ∧ v = .none ∧ σ3.tv false = σ.tv false))
      (S : Sp w s₀ (objs σ3 ++ ((L, .ns m) :: (X ++ (T ++ R)))) s) : GrZ w s₀ σ L bl T R s
theorem grown_spec {ws : Str} {t : Tok} {c1 : Bool} (hw2 : c1 = false → ws = k "push" ∨ ws = k "unshift" ∨ ws = k "fill") (S : Sp w s₀ (objs σ ++ R) s) (hA : Rm A 20) (hfr : A.frames = some l) (hF : FrOn l R) (hb : Bd σ 20 40) (hs : Same σ) (hw1 : (ws.cps.toList == (k "resize").cps.toList) = c1)
    (h : ∀ σ' s', Nx σ σ' 20 40 → Same σ' → Sp w s₀ (objs σ' ++ R) s' → Q (.bool true) s') : wpAny (model pg w) A (call (.ref 637) [.ref σ.A.cup, .str ws t]) Q E s := by
  refine callX [(k "way", .str ws t), (k "cup", .ref σ.A.cup)] S hA.lt hfr hF rfl (by kernel_rfl) (BindsTo.of_eq rfl) (fun L s1 S1 f1 f2 => ?_)
  refine wpAny_execs_cons (sw2 S1 hA.2.2 (Tuple_ (wpAny_items_cons (Subscript_ (nmL S1 (mR (.head _)) rfl (wpAny_Constant_str (gdr (S1.toks _) (cupD' rfl) rfl fun s2 S2 => ?_)))))))
  refine wpAny_items_cons (Subscript_ (nmL S2 (mR (.head _)) rfl (wpAny_Constant_str (gdr (S2.toks _) (cupD' rfl) rfl fun s3 S3 => ?_))))
  refine wpAny_items_nil (newT S3 fun tp s6 S6 => ⟨_, _, tp, L, .ref (σ.A.ar false), .ref (σ.A.ar true), _, rfl, S6.inn.swap, mR (.tail _ (.head _)), rfl, fun u v s7 hu hv S7 => ?_⟩)
  obtain rfl := er_ref hu
  obtain rfl := er_ref hv
  have S7 := S7.sub (W' := objs σ ++ ((L, _) :: R)) (.append_left (.cons_cons _ (.cons _ (.refl _))) _)
  refine wpAny_execs_cons (sw2 S7 hA.2.2 (Tuple_ (wpAny_items_cons (callN (nmB (v := .builtin "len") S7 (by kernel_rfl) (by kernel_rfl) (bi1 (Attribute_any_ (nmL S7 (mR (.head _)) rfl ?_))))))))
  refine getItemsB false S7 fun s8 S8 => lenItems false S8 (hb.l _) fun t5 s9 S9 => ?_
  refine wpAny_items_cons (callN (nmG (v := .ref 602) S9 (by kernel_rfl) (df1 S9 (by kernel_rfl) (callN (nmG (v := .ref 395) S9 (by kernel_rfl) (df1 S9 (by kernel_rfl) (nmL S9 (mR (.head _)) rfl ⟨⟨_, S9⟩, ?_⟩)))))))
  refine arrvals_nx false S9 ((hA.down _).le (by decide)) hb.wf fun ds dl s10 hd ok ln S10 => ⟨⟨_, S10⟩, ?_⟩
  refine told_spec S10 ((hA.down _).le (by decide)) (.head _) ok (by lia) fun ts bl s11 hts S11 => ?_
  have S11 := (S11.sub (W' := objs σ ++ (((bl, .list (ts.map Tv.val)) :: (ts.flatMap Tv.objs).reverse) ++ ((L, _) :: R))) (.append_left (.cons_cons _ (.append_left (.cons _ (.refl _)) _)) _)).perm (List.Perm.append_left _ List.perm_middle)
  refine wpAny_items_nil (newT S11 fun tp s12 S12 => ⟨_, _, tp, L, vi (σ.tv false).length, .ref bl, _, rfl, S12.inn.swap, mR (.tail _ (.head _)), rfl, fun u v s13 hu hv S13 => ?_⟩)
  obtain ⟨t13, rfl⟩ := er_int hu
  obtain rfl := er_ref hv
  have S13 := S13.sub (W' := objs σ ++ ((L, _) :: (((bl, .list (ts.map Tv.val)) :: (ts.flatMap Tv.objs).reverse) ++ R))) (.append_left (.cons_cons _ (.cons _ (.refl _))) _)
  have S14 := S13.toks (s13.toks + 1)
  generalize eT : (bl, SO.list (ts.map Tv.val)) :: (ts.flatMap Tv.objs).reverse = T at S14
  have mT : ∀ p ∈ T, p ∈ T ++ R := fun p hp => List.mem_append_left _ hp
  have h7 : (σ.tv false).length ≤ 7 := by rw [tv_len]; exact hb.wf.len false
  refine cutN (GrZ w s₀ σ L bl T R) ?_ ?_
  rotate_left
  · rintro s28 ⟨σ3, m, u, v, X, n3, hs3, m1, m2, m3, m4, m5, m6, hv, S28⟩
    have A3 := n3.A
    refine wpAny_execs_cons (wpAny_If ?_)
    rcases hv with ⟨l, t, rfl, rfl⟩ | ⟨rfl, rfl, g3⟩
    · refine wpAny_isTrue_BoolOp (wpAny_allTrue_And_cons (wpAny_isTrue_Compare1 (nmL S28 (mR (.head _)) m5 (wpAny_Constant_none (is_none_gen (wpAny_truthy_bool ?_))))))
      refine wpAny_execs_nil ?_
      refine wpAny_execs_cons (wpAny_Return_some (wpAny_Compare1 (nmL S28 (mR (.head _)) m5 (IfExp_ (wpAny_isTrue_Compare1 (nmL S28 (mR (.head _)) m6 (wpAny_Constant_none (is_none_gen (wpAny_truthy_bool ?_)))))))))
      refine callN (nmB (v := .builtin "len") S28 (by kernel_rfl) (by kernel_rfl) (bi1 (Attribute_any_ (nmL S28 (mR (.head _)) m3 (getItemsB true S28 (fun s29 S29 => ?_) A3)))))
      refine lenItems true S29 (by have := n3.wf.len true; lia) fun t30 s30 S30 => PyProof.Rows.eq_int ?_
      rw [beq_self_eq_true]
      exact h σ3 s30 n3 hs3 (S30.sub (.append_left (.cons _ (sApp (sApp (.refl _)))) _))
    · refine wpAny_isTrue_BoolOp (wpAny_allTrue_And_cons (wpAny_isTrue_Compare1 (nmL S28 (mR (.head _)) m5 (wpAny_Constant_none (is_none_gen (wpAny_truthy_bool ?_))))))
      refine wpAny_allTrue_And_cons (wpAny_isTrue_Compare1 (callN (nmG (v := .ref 602) S28 (by kernel_rfl) (df1 S28 (by kernel_rfl) (callN (nmG (v := .ref 395) S28 (by kernel_rfl) (df1 S28 (by kernel_rfl) (nmL S28 (mR (.head _)) m2 ⟨⟨_, S28⟩, ?_⟩))))))))
      refine arrvals_nx false S28 ((hA.down _).le (by decide)) n3.wf (fun d2 l2 s29 hd2 ok2 ln2 S29 => ⟨⟨_, S29⟩, ?_⟩) A3
      refine told_spec S29 ((hA.down _).le (by decide)) (.head _) ok2 (by lia) fun us b2 s30 hus S30 => ?_
      refine nmL S30 (mR (.tail _ (List.mem_append_right _ (.tail _ (.head _))))) m4 ?_
      refine neTold S30 (Rm.u64 (n := 0) ((hA.down _).le (by decide))) (xs := us) (ys := ts) (mR (.head _)) (fun p hp => mR (.tail _ (List.mem_append_left _ (by simpa using hp)))) (mR (.tail _ (List.mem_append_right _ (.tail _ (.tail _ (List.mem_append_right _ (mT _ (by rw [← eT]; exact .head _)))))))) (fun p hp => mR (.tail _ (List.mem_append_right _ (.tail _ (.tail _ (List.mem_append_right _ (mT _ (by rw [← eT]; exact .tail _ (List.mem_reverse.mpr hp))))))))) (wpAny_truthy_bool ?_)
      rw [decide_eq_true (show us.map Tv.t = ts.map Tv.t by rw [hus, hts, hd2, hd, g3])]
      refine wpAny_execs_nil ?_
      have S31 := S30.sub (W' := objs σ3 ++ ((L, _) :: (X ++ (T ++ R)))) (.append_left (.cons _ (sApp (.cons _ (.refl _)))) _)
      refine wpAny_execs_cons (wpAny_Return_some (wpAny_Compare1 (nmL S31 (mR (.head _)) m5 (IfExp_ (wpAny_isTrue_Compare1 (nmL S31 (mR (.head _)) m6 (wpAny_Constant_none (is_none_gen (wpAny_truthy_bool ?_)))))))))
      refine wpAny_Constant_none (EqNone.eq_none_none ?_)
      exact h σ3 s30 n3 hs3 (S31.sub (.append_left (.cons _ (sApp (sApp (.refl _)))) _))
  refine wpAny_If (wpAny_isTrue_Compare1 (nmL S13 (mR (.head _)) rfl (wpAny_Constant_str (eqS hw1 (wpAny_truthy_bool ?_)))))
  cases c1 with
  | true =>
    rw [if_pos rfl]
    refine wpAny_execs_cons (asgL S14 (callN (nmG (v := .ref 585) S14 (by kernel_rfl) (df2 S14 (by kernel_rfl) (nmL S14 (mR (.head _)) rfl (wpAny_BinOp (nmG (v := .int 7 975) S14 (by kernel_rfl) (wpAny_Constant_int (PyProof.Rows.add_int ?_)))))))))
    have S15 := (S14.toks (s13.toks + 1 + 1)).toks (s13.toks + 1 + 1 + 1)
    refine ⟨⟨_, S15⟩, roll_nx S15 ((hA.down _).le (by decide)) (by decide) (hb.le (by decide) (by decide)) fun σ1 g t16 s16 n1 v1 g0 g1 S16 => ?_⟩
    obtain ⟨g, rfl⟩ : ∃ n : Nat, g = n := ⟨g.toNat, by lia⟩
    have b1 : Bd σ1 20 30 := Bd.nx (a' := 0) (r' := 1) (hb.le (by decide) (by decide)) n1
    have A1 := n1.A
    refine ⟨_, _, L, _, S16, uR .head, rfl, fun s17 S17 => ?_⟩
    have hlen : (σ1.tv false).length = (σ.tv false).length := by rw [v1]
    have hs1 : σ1.tv true = σ1.tv false := by rw [v1, v1]; exact hs.symm
    refine cutN (fun s => ∃ (σ2 : Dm) (v : Value), Nx σ1 σ2 0 0 ∧ σ2.tv true = σ1.tv true ∧
        ((g ≤ 7 ∧ (∃ t, v = .int g t) ∧ σ2.tv false = (σ1.tv false).take g ++ List.replicate (g - (σ1.tv false).length) .none) ∨ (7 < g ∧ v = .none ∧ σ2 = σ1)) ∧
        Sp w s₀ (objs σ2 ++ ((L, .ns [(k "way", .str ws t), (k "cup", .ref σ.A.cup), (k "other", .ref (σ.A.ar true)), (k "one", .ref (σ.A.ar false)), (k "before", .ref bl), (k "size", .int (σ.tv false).length t13), (k "goal", .int g t16), (k "answer", v)]) :: (T ++ R))) s) ?_ ?_
    · refine asgL S17 (callN (nmG (v := .ref 630) S17 (by kernel_rfl) (df3 S17 (by kernel_rfl) (nmL S17 (mR (.head _)) rfl (nmL S17 (mR (.head _)) rfl (nmL S17 (mR (.head _)) rfl ⟨⟨_, S17⟩, ?_⟩))))))
      by_cases q : g ≤ 7
      · refine resized_ok (n := g) S17 ((hA.down _).le (by decide)) (b1.le (by decide) (by decide)) (by lia) q (fun σ2 t18 s18 hg S18 => ?_) A1
        obtain ⟨n2, e1, e2⟩ := hg
        exact ⟨_, _, L, _, S18, uR .head, rfl, fun s19 S19 => ⟨rfl, σ2, _, n2, e2, .inl ⟨q, ⟨_, rfl⟩, e1⟩, S19⟩⟩
      · refine resized_die (n := g) S17 ((hA.down _).le (by decide)) f1 f2.into (by lia) (by lia) (fun s18 S18 => ?_) A1
        exact ⟨_, _, L, _, S18, uR .head, rfl, fun s19 S19 => ⟨rfl, σ1, _, ⟨n1.wf, rfl, Int.le_refl _, by lia, by lia, fun _ z => z⟩, rfl, .inr ⟨by lia, rfl, rfl⟩, S19⟩⟩
    rintro s19 ⟨σ2, v, n2, e2, hv, S19⟩
    have A2 := n2.A.trans A1
    generalize hn : (σ.tv false).length = n at *
    have em := ar_em g n
    refine wpAny_execs_cons (asgL S19 (callN (nmG (v := .ref 616) S19 (by kernel_rfl) (df5 S19 (by kernel_rfl) (nmL S19 (mR (.head _)) rfl (nmL S19 (mR (.head _)) rfl (callN (nmB (v := .builtin "min") S19 (by kernel_rfl) (by kernel_rfl) (bi2 (nmL S19 (mR (.head _)) rfl (nmL S19 (mR (.head _)) rfl ?_)))))))))))
    refine minI S19 (mR (.head _)) hA.2.2 fun t20 s20 S20 => ?_
    rw [em]
    refine wpAny_BinOp (nmL S20 (mR (.head _)) rfl (callN (nmB (v := .builtin "min") S20 (by kernel_rfl) (by kernel_rfl) (bi2 (nmL S20 (mR (.head _)) rfl (nmL S20 (mR (.head _)) rfl ?_))))))
    refine minI S20 (mR (.head _)) hA.2.2 fun t21 s21 S21 => ?_
    rw [em]
    refine PyProof.Rows.sub_int ?_
    have S22 := S21.toks (s21.toks + 1)
    refine wpAny_BinOp (List_ (wpAny_items_cons (wpAny_Constant_none (wpAny_items_nil (newL S22 fun nl s23 S23 => ?_)))))
    have S23 := S23.inn
    refine wpAny_BinOp (nmL S23 (mR (.tail _ (.head _))) rfl (callN (nmB (v := .builtin "min") S23 (by kernel_rfl) (by kernel_rfl) (bi2 (nmL S23 (mR (.tail _ (.head _))) rfl (nmL S23 (mR (.tail _ (.head _))) rfl ?_))))))
    refine minI S23 (mR (.head _)) hA.2.2 fun t24 s24 S24 => ?_
    rw [em]
    refine PyProof.Rows.sub_int ?_
    rw [ar_eg, ar_es]
    refine mulN (S24.toks _) (mR (.head _)) (by lia) fun rl s25 S25 => ?_
    have S25 := S25.inn
    have ln2 : (σ2.tv true).length = n := by rw [e2, hs1, hlen]
    refine ⟨⟨_, S25⟩, ?_⟩
    rcases hv with ⟨q, ⟨t19, rfl⟩, e1⟩ | ⟨q, rfl, rfl⟩
    · have b2 : Bd σ2 20 30 := Bd.nx (a' := 0) (r' := 0) b1 n2
      refine lsplice_nx (ds := List.replicate (g - min g n) .none) (b := true) (p := min g n) (c := n - min g n) S25 ((hA.down _).le (by decide)) (b2.le (by rw [List.length_replicate]; exact Nat.le_trans (Nat.sub_le ..) (Nat.le_trans q (by decide))) (by decide)) (by rw [List.map_replicate]; exact .head _) (fun x hx => by rw [List.eq_of_mem_replicate hx]; trivial) (by rw [ln2, ar_pc]; exact Nat.le_refl _) (by rw [ln2, List.length_replicate, ar_gg]; exact q) (fun σ3 us ul s26 n3 g1' g2' ht3 S26 => ?_) A2
      refine ⟨_, _, L, _, S26, uR (.tail (Upd.right (.tail (.tail .head)))), rfl, fun s27 S27 => ?_⟩
      have S28 := (S27.sub (W' := objs σ3 ++ ((_ :: (us.flatMap Tv.objs).reverse) ++ ((L, _) :: (T ++ R)))) (.append_left (.cons_cons _ (.append_left (.cons _ (.cons _ (.refl _))) _)) _)).perm (List.Perm.append_left _ List.perm_middle)
      have g2 : σ3.tv false = σ2.tv false := g2'
      have ln3 : (σ3.tv true).length = g := by rw [g1']; simp only [List.length_append, List.length_take, List.length_drop, List.length_map, List.length_replicate, ln2]; rw [ar_pc, Nat.sub_self, Nat.add_zero, Nat.min_eq_left (Nat.min_le_right g n)]; exact Nat.add_sub_cancel' (Nat.min_le_left g n)
      refine wpAny_execs_nil ⟨rfl, σ3, _, _, _, _, (n1.trans (n2.trans n3)).mono (by rw [List.length_replicate]; lia) (by decide), ?_, rfl, rfl, rfl, rfl, rfl, rfl, .inl ⟨_, t19, rfl, by rw [ln3]⟩, S28⟩
      show σ3.tv false = σ3.tv true
      rw [g2, e1, g1', e2, hs1, v1, hn]
      rw [show min g n + (n - min g n) = (σ.tv false).length by rw [hn, ar_pc], List.drop_length, List.append_nil, List.map_replicate]
      refine congr (congrArg _ ?_) (by rw [ar_g]; rfl)
      by_cases q2 : g ≤ n
      · rw [Nat.min_eq_left q2]
      · rw [Nat.min_eq_right (by lia), List.take_of_length_le (by rw [hn]; lia), List.take_of_length_le (by rw [hn]; exact Nat.le_refl _)]
    · refine lsplice_dx (ds := List.replicate (g - min g n) .none) (b := true) (p := min g n) (c := n - min g n) S25 ((hA.down _).le (by decide)) f1 f2.into.tl.tl (b1.le (by decide) (by decide)) (by rw [List.map_replicate]; exact .head _) (by rw [ln2, ar_pc]; exact Nat.le_refl _) (by rw [List.length_replicate]; lia) (by rw [ln2, List.length_replicate, ar_gg]; exact q) (fun σ3 s26 n3 g3 S26 => ?_) A1
      refine ⟨_, _, L, _, S26, uR (.tail (.tail .head)), rfl, fun s27 S27 => ?_⟩
      have S28 := S27.sub (W' := objs σ3 ++ ((L, _) :: ([] ++ (T ++ R)))) (.append_left (.cons _ (.cons _ (.refl _))) _)
      exact wpAny_execs_nil ⟨rfl, σ3, _, _, _, _, (n1.trans n3).mono (by decide) (by decide), by show σ3.tv false = σ3.tv true; rw [g3, g3, v1, v1]; exact hs, rfl, rfl, rfl, rfl, rfl, rfl, .inr ⟨rfl, rfl, by rw [g3, v1]⟩, S28⟩
  | false =>
    rw [if_neg Bool.false_ne_true]
    refine wpAny_execs_cons (asgL S14 (callN (nmG (v := .ref 597) S14 (by kernel_rfl) (df2 S14 (by kernel_rfl) (nmL S14 (mR (.head _)) rfl (wpAny_Constant_int ⟨⟨_, S14.toks _⟩, ?_⟩))))))
    refine values_nx (n := 3) (S14.toks _) ((hA.down _).le (by decide)) (by decide) (hb.le (by decide) (by decide)) fun σ1 ds l1 s16 n1 v1 hd3 hok S16 => ?_
    have b1 : Bd σ1 20 10 := Bd.nx (a' := 0) (r' := 30) hb n1
    have A1 := n1.A
    refine ⟨_, _, L, _, S16, uR (.tail .head), rfl, fun s17 S17 => ?_⟩
    have S17 := S17.swap
    have hs1 : σ1.tv true = σ1.tv false := by rw [v1, v1]; exact hs.symm
    have hlen : (σ1.tv false).length = (σ.tv false).length := by rw [v1]
    have b1d : Bd σ1 ds.length 0 := b1.le (by lia) (by decide)
    obtain ⟨f, p, c, cp, cu, hlk, hkp, hcp, hcu, hp, hc, hwk, hdie⟩ : ∃ (f : Addr) (p c : Nat) (cp cu : Bool), ([(k "push", .ref 299), (k "unshift", .ref 306), (k "fill", .ref 390)] : List (Str × Value)).lookup ws = some (.ref f) ∧ keepIn (K w.params) (.ref f) = true ∧
        (ws.cps.toList == (k "push").cps.toList) = cp ∧ (ws.cps.toList == (k "unshift").cps.toList) = cu ∧ p = (if cp then (σ.tv false).length else 0) ∧ c = (if cp then 0 else if cu then 0 else (σ.tv false).length) ∧
        ((σ.tv false).length - c + ds.length ≤ 7 → Works w s₀ σ1 false f l1 (ds.map DV.val) ((σ.tv false).length - c + ds.length) (Gr σ1 false ds.length ((σ1.tv false).take p ++ ds.map DV.told ++ (σ1.tv false).drop (p + c)))) ∧
        (7 < (σ.tv false).length - c + ds.length → Dies w s₀ σ1 false f l1 (ds.map DV.val)) := by
      rcases hw2 rfl with rfl | rfl | rfl
      · refine ⟨299, _, _, true, false, by kernel_rfl, by kernel_rfl, by decide +kernel, by decide +kernel, rfl, rfl, fun q => ?_, fun q => ?_⟩
        · have : Works w s₀ σ1 false 299 l1 (ds.map DV.val) ((σ1.tv false).length + ds.length) (Gr σ1 false ds.length (σ1.tv false ++ ds.map DV.told)) := push_works (w := w) (s₀ := s₀) (b := false) (vl := l1) b1d hok (by rw [hlen]; simpa using q)
          simp only [if_true, Nat.sub_zero, Nat.add_zero]
          rw [← hlen, List.take_length, List.drop_length, List.append_nil]; exact @this
        · exact push_dies (b := false) (vl := l1) (b1d.le (Nat.zero_le _) (by decide)) (by lia) (by rw [hlen]; simpa using q)
      · refine ⟨306, _, _, false, true, by kernel_rfl, by kernel_rfl, by decide +kernel, by decide +kernel, rfl, rfl, fun q => ?_, fun q => ?_⟩
        · have : Works w s₀ σ1 false 306 l1 (ds.map DV.val) ((σ1.tv false).length + ds.length) (Gr σ1 false ds.length (ds.map DV.told ++ σ1.tv false)) := unshift_works (w := w) (s₀ := s₀) (b := false) (vl := l1) b1d hok (by rw [hlen]; simpa using q)
          simp only [if_true, if_false, Bool.false_eq_true, Nat.sub_zero, Nat.add_zero, List.take_zero, List.nil_append, List.drop_zero]
          rw [← hlen]; exact @this
        · exact unshift_dies (b := false) (vl := l1) (b1d.le (Nat.zero_le _) (by decide)) (by lia) (by rw [hlen]; simpa using q)
      · refine ⟨390, _, _, false, false, by kernel_rfl, by kernel_rfl, by decide +kernel, by decide +kernel, rfl, rfl, fun q => ?_, fun q => ?_⟩
        · have : Works w s₀ σ1 false 390 l1 (ds.map DV.val) ds.length (Gr σ1 false ds.length (ds.map DV.told)) := fill_works (w := w) (s₀ := s₀) (b := false) (vl := l1) b1d hok (by lia)
          simp only [if_false, Bool.false_eq_true, Nat.sub_self, Nat.zero_add, List.take_zero, List.nil_append]
          rw [← hlen, List.drop_length, List.append_nil]; exact @this
        · simp only [if_false, Bool.false_eq_true, Nat.sub_self, Nat.zero_add] at q
          lia
    generalize hn : (σ.tv false).length = n at *
    have hpc : p + c ≤ n := by rw [hp, hc]; cases cp <;> cases cu <;> simp
    -- work
    refine wpAny_execs_cons (asgL S17 (Subscript_ (dictS S17 fun dd s18 S18 => ?_)))
    refine pairTrees_cons_walk (wpAny_Constant_str (nmG (v := .ref 299) (S18.toks _) (by kernel_rfl) (pairTrees_cons_walk (wpAny_Constant_str (nmG (v := .ref 306) ((S18.toks _).toks _) (by kernel_rfl) (pairTrees_cons_walk (wpAny_Constant_str (nmG (v := .ref 390) (((S18.toks _).toks _).toks _) (by kernel_rfl) (pairTrees_nil_walk ⟨[], _, [(k "push", .ref 299), (k "unshift", .ref 306), (k "fill", .ref 390)], ((S18.toks _).toks _).toks _, rfl, rfl, by kernel_rfl, fun s19 S19 => ?_⟩)))))))))
    refine nmL S19 (.tail _ (mR (.head _))) rfl (kba_turn (value' := .Name (Str.ofString "_") ⟨0, 0, 0, 0⟩) (fun _ => rfl) (gdr S19 (.head _) hlk fun s20 S20 => ?_))
    refine ⟨_, _, L, _, S20.sub (List.sublist_cons_self _ _), uR .head, rfl, fun s21 S21 => ?_⟩
    -- answer
    refine cutN (fun s => ∃ (σ2 : Dm) (v : Value), Nx σ1 σ2 ds.length 0 ∧ σ2.tv true = σ1.tv true ∧
        ((n - c + ds.length ≤ 7 ∧ (∃ t, v = .int (n - c + ds.length : Nat) t) ∧ σ2.tv false = (σ1.tv false).take p ++ ds.map DV.told ++ (σ1.tv false).drop (p + c)) ∨ (7 < n - c + ds.length ∧ v = .none ∧ σ2 = σ1)) ∧
        Sp w s₀ (objs σ2 ++ ((L, .ns [(k "way", .str ws t), (k "cup", .ref σ.A.cup), (k "other", .ref (σ.A.ar true)), (k "one", .ref (σ.A.ar false)), (k "before", .ref bl), (k "size", .int n t13), (k "values", .ref l1), (k "work", .ref f), (k "answer", v)]) :: (l1, .list (ds.map DV.val)) :: (T ++ R))) s) ?_ ?_
    · refine asgL S21 (callN (nmG (v := .ref 623) S21 (by kernel_rfl) (df4 S21 (by kernel_rfl) (nmL S21 (mR (.head _)) rfl (nmL S21 (mR (.head _)) rfl (nmL S21 (mR (.head _)) rfl (nmL S21 (mR (.head _)) rfl ⟨⟨_, S21⟩, ?_⟩)))))))
      by_cases q : n - c + ds.length ≤ 7
      · refine deed_ok S21 ((hA.down _).le (by decide)) hkp (.tail _ (.head _)) (by lia) (hwk q) (fun σ2 t22 s22 hg S22 => ?_) A1
        obtain ⟨n2, e1, e2⟩ := hg
        exact ⟨_, _, L, _, S22, uR .head, rfl, fun s23 S23 => ⟨rfl, σ2, _, n2, e2, .inl ⟨q, ⟨_, rfl⟩, e1⟩, S23⟩⟩
      · refine deed_die S21 ((hA.down _).le (by decide)) f1 (f2.into (X := _ :: T)) hkp (.tail _ (.head _)) (hdie (by lia)) (fun s22 S22 => ?_) A1
        exact ⟨_, _, L, _, S22, uR .head, rfl, fun s23 S23 => ⟨rfl, σ1, _, ⟨n1.wf, rfl, Int.le_refl _, by lia, by lia, fun _ z => z⟩, rfl, .inr ⟨by lia, rfl, rfl⟩, S23⟩⟩
    rintro s22 ⟨σ2, v, n2, e2, hv, S22⟩
    have A2 := n2.A.trans A1
    have b2 : Bd σ2 10 10 := Bd.nx (a' := ds.length) (r' := 0) (b1.le (by lia) (by decide)) n2
    -- begin, count
    refine cutN (fun s => ∃ tb tc, Sp w s₀ (objs σ2 ++ ((L, .ns [(k "way", .str ws t), (k "cup", .ref σ.A.cup), (k "other", .ref (σ.A.ar true)), (k "one", .ref (σ.A.ar false)), (k "before", .ref bl), (k "size", .int n t13), (k "values", .ref l1), (k "work", .ref f), (k "answer", v), (k "begin", .int p tb), (k "count", .int c tc)]) :: (l1, .list (ds.map DV.val)) :: (T ++ R))) s) ?_ ?_
    · refine Assign_Tuple (IfExp_ (wpAny_isTrue_Compare1 (nmL S22 (mR (.head _)) rfl (wpAny_Constant_str (eqS hcp (wpAny_truthy_bool ?_))))))
      have S23 := S22.toks (s22.toks + 1)
      cases cp with
      | true =>
        simp only [if_true] at hp hc ⊢
        subst hp; subst hc
        refine Tuple_ (wpAny_items_cons (nmL S23 (mR (.head _)) rfl (wpAny_items_cons (wpAny_Constant_int (wpAny_items_nil (newT (S23.toks _) fun tp s24 S24 => ?_))))))
        refine asT2 S24.inn.swap hA.2.2 (mR (.tail _ (.head _))) fun u v s25 hu hv S25 => ?_
        obtain ⟨tb, rfl⟩ := er_int hu
        obtain ⟨tc, rfl⟩ := er_int hv
        exact ⟨trivial, tb, tc, S25.sub (.append_left (.cons_cons _ (.cons _ (.refl _))) _)⟩
      | false =>
        simp only [if_false, Bool.false_eq_true] at hp hc ⊢
        subst hp
        refine Tuple_ (wpAny_items_cons (wpAny_Constant_int (wpAny_items_cons (IfExp_ (wpAny_isTrue_Compare1 (nmL (S23.toks _) (mR (.head _)) rfl (wpAny_Constant_str (eqS hcu (wpAny_truthy_bool ?_)))))))))
        have S24 := (S23.toks (s22.toks + 1 + 1)).toks (s22.toks + 1 + 1 + 1)
        cases cu with
        | true =>
          simp only [if_true] at hc ⊢
          subst hc
          refine wpAny_Constant_int (wpAny_items_nil (newT (S24.toks _) fun tp s24 S24 => ?_))
          refine asT2 S24.inn.swap hA.2.2 (mR (.tail _ (.head _))) fun u v s25 hu hv S25 => ?_
          obtain ⟨tb, rfl⟩ := er_int hu
          obtain ⟨tc, rfl⟩ := er_int hv
          exact ⟨trivial, tb, tc, S25.sub (.append_left (.cons_cons _ (.cons _ (.refl _))) _)⟩
        | false =>
          simp only [if_false, Bool.false_eq_true] at hc ⊢
          subst hc
          refine nmL S24 (mR (.head _)) rfl (wpAny_items_nil (newT S24 fun tp s24 S24 => ?_))
          refine asT2 S24.inn.swap hA.2.2 (mR (.tail _ (.head _))) fun u v s25 hu hv S25 => ?_
          obtain ⟨tb, rfl⟩ := er_int hu
          obtain ⟨tc, rfl⟩ := er_int hv
          exact ⟨trivial, tb, tc, S25.sub (.append_left (.cons_cons _ (.cons _ (.refl _))) _)⟩
    rintro s23 ⟨tb, tc, S23⟩
    -- taken
    refine wpAny_execs_cons (asgL S23 (callN (nmG (v := .ref 616) S23 (by kernel_rfl) (df5 S23 (by kernel_rfl) (nmL S23 (mR (.head _)) rfl (nmL S23 (mR (.head _)) rfl (nmL S23 (mR (.head _)) rfl (nmL S23 (mR (.head _)) rfl (nmL S23 (mR (.head _)) rfl ⟨⟨_, S23⟩, ?_⟩)))))))))
    have ln2 : (σ2.tv true).length = n := by rw [e2, hs1, hlen]
    rcases hv with ⟨q, ⟨t24, rfl⟩, e1⟩ | ⟨q, rfl, rfl⟩
    · refine lsplice_nx (ds := ds) (b := true) (p := p) (c := c) S23 ((hA.down _).le (by decide)) (b2.le (by lia) (by decide)) (.tail _ (.head _)) (fun x hx => n2.ok x (hok x hx)) (by rw [ln2]; exact hpc) (by rw [ln2]; exact q) (fun σ3 us ul s26 n3 g1' g2' ht3 S26 => ?_) A2
      refine ⟨_, _, L, _, S26, uR (.tail (Upd.right .head)), rfl, fun s27 S27 => ?_⟩
      have g2 : σ3.tv false = σ2.tv false := g2'
      have ln3 : (σ3.tv true).length = n - c + ds.length := by rw [g1']; simp only [List.length_append, List.length_take, List.length_drop, List.length_map, ln2]; exact ar_ln hpc
      have S28 := (S27.sub (W' := objs σ3 ++ ((_ :: (us.flatMap Tv.objs).reverse) ++ ((L, _) :: (T ++ R)))) (.append_left (.cons_cons _ (.append_left (.cons_cons _ (.cons _ (.refl _))) _)) _)).perm (List.Perm.append_left _ List.perm_middle)
      exact wpAny_execs_nil ⟨rfl, σ3, _, _, _, _, (n1.trans (n2.trans n3)).mono (by lia) (by decide), by show σ3.tv false = σ3.tv true; rw [g2, e1, g1', e2, hs1], rfl, rfl, rfl, rfl, rfl, rfl, .inl ⟨_, t24, rfl, by rw [ln3]⟩, S28⟩
    · refine lsplice_dx (ds := ds) (b := true) (p := p) (c := c) S23 ((hA.down _).le (by decide)) f1 (f2.into (X := _ :: T)) (b1.le (by decide) (by decide)) (.tail _ (.head _)) (by rw [ln2]; exact hpc) (by lia) (by rw [ln2]; exact q) (fun σ3 s26 n3 g3 S26 => ?_) A1
      refine ⟨_, _, L, _, S26, uR .head, rfl, fun s27 S27 => ?_⟩
      have S28 := S27.sub (W' := objs σ3 ++ ((L, _) :: ([] ++ (T ++ R)))) (.append_left (.cons_cons _ (.cons _ (.refl _))) _)
      exact wpAny_execs_nil ⟨rfl, σ3, _, _, _, _, (n1.trans n3).mono (by decide) (by decide), by show σ3.tv false = σ3.tv true; rw [g3, g3, v1, v1]; exact hs, rfl, rfl, rfl, rfl, rfl, rfl, .inr ⟨rfl, rfl, by rw [g3, v1]⟩, S28⟩
end
end Mine
end
section
open PySem PySem.W PySem.Calls PyProof.Rows
set_option maxRecDepth 100000
namespace Mine
set_option linter.unusedVariables false
set_option maxHeartbeats 1000000
section
variable {w : World} {s₀ s : Shared} {W W' X R : Led} {A : Around} {E : Value → Shared → Prop} {env : Env} {σ : Dm} {b : Bool} {Q : Value → Shared → Prop} {l : List Env}
theorem if1 {c : Expr} {env' : Env} {Q : Bool → Shared → Prop} (h : wpAny (model pg w) A (isTrue c env' (eval c env')) Q E s) :
    wpAny (model pg w) A (forIn [c] true fun c r => if r = true then do let ok ← isTrue c env' (eval c env'); pure (ForInStep.yield ok) else pure (ForInStep.yield r)) Q E s := by
  rw [List.forIn_cons]
  refine wpAny_bind ?_
  rw [if_pos rfl]
  refine wpAny_bind (wpAny_mono h (fun b s₁ z => wpAny_pure ?_) fun _ _ e => e)
  show wpAny _ _ (forIn [] b _) _ _ _
  rw [List.forIn_nil]
  exact wpAny_pure z
theorem kept_spec {t : It} {c : Sc} (S : Sp w s₀ (objs σ ++ R) s) (hA : Rm A 2) (hc : σ.At t c) (h : ∀ s', Sp w s₀ (objs σ ++ R) s' → Q .none s') : wpAny (model pg w) A (call (.ref 442) [.ref t.a]) Q E s := by
  refine callS [(k "thing", .ref t.a)] S hA.lt rfl (by kernel_rfl) (BindsTo.of_eq rfl) (fun L s1 S1 => ?_)
  refine wpAny_execs_cons (asgL S1 (wpAny_Constant_none ⟨_, _, L, _, S1, uR .head, rfl, fun s2 S2 => ?_⟩))
  refine wpAny_execs_cons (wpAny_If (wpAny_isTrue_value (callN (nmB (v := .builtin "isinstance") S2 (by kernel_rfl) (by kernel_rfl) (bi2 (nmL S2 (mR (.head _)) rfl (nmG (v := .ref 59) S2 (by kernel_rfl) (isTrueI S2 (scI hc) (by kernel_rfl) (wpAny_truthy_bool ?_)))))))))
  refine wpAny_execs_cons (asgL S2 (Attribute_any_ (nmL S2 (mR (.head _)) rfl (getA S2 (scI hc) (scD hc) rfl (by kernel_rfl) fun v3 s3 ev S3 => ⟨_, _, L, _, S3, uR .head, rfl, fun s4 S4 => ?_⟩))))
  obtain rfl := er_none ev
  refine wpAny_execs_nil ?_
  refine wpAny_execs_cons (wpAny_Return_some (IfExp_ (wpAny_isTrue_value (callN (nmB (v := .builtin "isinstance") S4 (by kernel_rfl) (by kernel_rfl) (bi2 (nmL S4 (mR (.head _)) rfl (nmG (v := .ref 431) S4 (by kernel_rfl) (isNoneF S4 (by kernel_rfl) fun s5 S5 => wpAny_truthy_bool ?_)))))))))
  exact wpAny_Constant_none (h _ S5.out1)
theorem finish_spec {A₀ : Ad} {t : It} {c : Sc} (S : Sp w s₀ (objs σ ++ R) s) (hA : Rm A 2) (hc : σ.At t c) (h0 : c.cnt = 0) (h : ∀ s', Sp w s₀ (objs σ ++ R) s' → Q .none s') (eA₀ : σ.A = A₀ := by rfl) : wpAny (model pg w) A (call (.ref 541) [.ref A₀.ctr, .ref t.a]) Q E s := by
  subst eA₀
  refine callS [(k "thing", .ref t.a), (k "self", .ref σ.A.ctr)] S hA.lt rfl (by kernel_rfl) (BindsTo.of_eq rfl) (fun L s1 S1 => ?_)
  refine wpAny_execs_cons (wpAny_If (wpAny_isTrue_BoolOp (wpAny_allTrue_Or_cons (wpAny_isTrue_Compare1 (Attribute_any_ (nmL S1 (mR (.head _)) rfl (getA S1 (scI hc) (scD hc) rfl (by kernel_rfl) fun v2 s2 ev S2 => ?_)))))))
  obtain ⟨t2, rfl⟩ := er_int ev
  refine wpAny_Constant_int (PyProof.Rows.ne_int (wpAny_truthy_bool ?_))
  rw [h0]
  have S3 := S2.toks (s2.toks + 1)
  refine wpAny_allTrue_Or_cons (wpAny_isTrue_Compare1 (Attribute_any_ (nmL S3 (mR (.head _)) rfl (getA S3 (scI hc) (scD hc) rfl (by kernel_rfl) fun v4 s4 ev S4 => ?_))))
  obtain rfl := er_none ev
  refine wpAny_Constant_none (is_none_gen (wpAny_truthy_bool ?_))
  exact wpAny_execs_cons (wpAny_Return_none (h _ S4.out1))
theorem held_spec {t : It} {c : Sc} (S : Sp w s₀ (objs σ ++ R) s) (hA : Rm A 4) (hc : σ.At t c) (h : ∀ l s', Sp w s₀ (objs σ ++ ((l, .list []) :: R)) s' → Q (.ref l) s') : wpAny (model pg w) A (call (.ref 447) [.ref t.a]) Q E s := by
  refine callC1 [] (k "thing") (some (.ref t.a)) S hA.lt rfl (by kernel_rfl) rfl rfl rfl (fun L s1 S1 => ?_)
  refine wpAny_execs_cons (wpAny_If (wpAny_isTrue_value (callN (nmB (v := .builtin "isinstance") S1 (by kernel_rfl) (by kernel_rfl) (bi2 (nmC (c := L + 1) (v := .ref t.a) S1 (mR (.tail _ (.head _))) (nmG (v := .ref 78) S1 (by kernel_rfl) (isFalse S1 (scI hc) (scD hc) (by kernel_rfl) (by kernel_rfl) fun s2 S2 => wpAny_truthy_bool ?_))))))))
  refine wpAny_execs_cons (wpAny_If (wpAny_isTrue_value (callN (nmB (v := .builtin "isinstance") S2 (by kernel_rfl) (by kernel_rfl) (bi2 (nmC (c := L + 1) (v := .ref t.a) S2 (mR (.tail _ (.head _))) (nmG (v := .ref 97) S2 (by kernel_rfl) (isFalse S2 (scI hc) (scD hc) (by kernel_rfl) (by kernel_rfl) fun s3 S3 => wpAny_truthy_bool ?_))))))))
  refine wpAny_execs_cons (wpAny_If (wpAny_isTrue_value (callN (nmB (v := .builtin "isinstance") S3 (by kernel_rfl) (by kernel_rfl) (bi2 (nmC (c := L + 1) (v := .ref t.a) S3 (mR (.tail _ (.head _))) (nmG (v := .ref 116) S3 (by kernel_rfl) (isFalse S3 (scI hc) (scD hc) (by kernel_rfl) (by kernel_rfl) fun s4 S4 => wpAny_truthy_bool ?_))))))))
  refine wpAny_execs_cons (wpAny_If (wpAny_isTrue_value (callN (nmB (v := .builtin "isinstance") S4 (by kernel_rfl) (by kernel_rfl) (bi2 (nmC (c := L + 1) (v := .ref t.a) S4 (mR (.tail _ (.head _))) (nmG (v := .ref 135) S4 (by kernel_rfl) (isFalse S4 (scI hc) (scD hc) (by kernel_rfl) (by kernel_rfl) fun s5 S5 => wpAny_truthy_bool ?_))))))))
  refine wpAny_execs_cons (asgL S5 (List_ (wpAny_items_nil (newL S5 fun hl s6 S6 => ⟨_, _, L, _, S6.inn, uR (.tail .head), rfl, fun s7 S7 => ?_⟩))))
  refine wpAny_execs_nil (wpAny_execs_nil (wpAny_execs_nil (wpAny_execs_nil ?_)))
  refine wpAny_execs_cons (wpAny_Return_some ?_)
  refine compP (s₀ := s₀) rfl (by decide) rfl (by decide) rfl hA.2.2 ?_
  refine wpAny_BinOp (nmL S7 (mR (.tail _ (.head _))) rfl (List_ (wpAny_items_cons (callN (nmG (v := .ref 442) S7 (by kernel_rfl) (df1 S7 (by kernel_rfl) (nmC (c := L + 1) (v := .ref t.a) S7 (mR (.tail _ (.tail _ (.head _)))) ⟨⟨_, S7⟩, ?_⟩)))))))
  refine kept_spec S7 ((hA.down _).le (by decide)) hc fun s8 S8 => wpAny_items_nil (newL S8 fun el s9 S9 => ?_)
  have S9 := S9.inn
  refine addL S9 (mR (.tail _ (.head _))) (mR (.head _)) (by simp) fun r s10 S10 => ?_
  have S10 := S10.inn
  refine iterL S10 (mR (.head _)) fun I s11 S11 => ?_
  refine ⟨fun i acc X R' => X = objs σ ∧ R' = ((r, .list [.none]) :: (el, .list [.none]) :: (hl, .list []) :: (L, .ns [(k "held", .ref hl)]) :: (L + 1, .cell (some (.ref t.a))) :: R) ∧ acc = [], I, _, _, [.none], _, _, rfl, Itr.list, S11, ⟨rfl, rfl, rfl⟩, by simp, ?_, ?_, ?_⟩
  · rintro i acc X R' ⟨rfl, rfl, rfl⟩
    exact ⟨mR (.head _), by simp⟩
  · rintro C D I i acc X R' v m s E ⟨rfl, rfl, rfl⟩ hv hm S2
    have hv : er v = .none := by
      cases i with
      | zero => exact (Option.some.inj hv).symm
      | succ i => simp at hv
    obtain rfl := er_none hv
    refine if1 (wpAny_isTrue_Compare1 (nmL S2 (mR (.head _)) hm (wpAny_Constant_none (isnot_none_gen (wpAny_truthy_bool ?_)))))
    exact ⟨_, _, ⟨rfl, rfl, rfl⟩, S2⟩
  · rintro acc X R' D s ⟨rfl, rfl, rfl⟩ S2
    exact h D s (S2.sub (.append_left (.cons_cons _ (.cons _ (.cons _ (.cons _ (.cons _ (.cons _ (.refl _))))))) _))
theorem empty_spec {t : It} {c : Sc} (S : Sp w s₀ (objs σ ++ R) s) (hA : Rm A 4) (hc : σ.At t c) (h : ∀ s', Sp w s₀ (objs σ ++ R) s' → Q .none s') : wpAny (model pg w) A (call (.ref 454) [.ref t.a]) Q E s := by
  refine callS [(k "thing", .ref t.a)] S hA.lt rfl (by kernel_rfl) (BindsTo.of_eq rfl) (fun L s1 S1 => ?_)
  refine wpAny_execs_cons (wpAny_If (wpAny_isTrue_BoolOp (wpAny_allTrue_And_cons (wpAny_isTrue_Compare1 (callN (nmG (v := .ref 442) S1 (by kernel_rfl) (df1 S1 (by kernel_rfl) (nmL S1 (mR (.head _)) rfl ⟨⟨_, S1⟩, ?_⟩))))))))
  refine kept_spec S1 ((hA.down _).le (by decide)) hc fun s2 S2 => wpAny_Constant_none (isnot_none_gen (wpAny_truthy_bool ?_))
  refine wpAny_execs_cons (wpAny_If (wpAny_isTrue_Compare1 (callN (nmG (v := .ref 442) S2 (by kernel_rfl) (df1 S2 (by kernel_rfl) (nmL S2 (mR (.head _)) rfl ⟨⟨_, S2⟩, ?_⟩))))))
  refine kept_spec S2 ((hA.down _).le (by decide)) hc fun s3 S3 => wpAny_Constant_none (isnot_none_gen (wpAny_truthy_bool ?_))
  refine wpAny_execs_nil (wpAny_execs_nil ?_)
  refine wpAny_execs_cons (wpAny_If (wpAny_isTrue_value (callN (nmB (v := .builtin "isinstance") S3 (by kernel_rfl) (by kernel_rfl) (bi2 (nmL S3 (mR (.head _)) rfl (nmG (v := .ref 78) S3 (by kernel_rfl) (isFalse S3 (scI hc) (scD hc) (by kernel_rfl) (by kernel_rfl) fun s4 S4 => wpAny_truthy_bool ?_))))))))
  refine wpAny_execs_cons (wpAny_If (wpAny_isTrue_value (callN (nmB (v := .builtin "isinstance") S4 (by kernel_rfl) (by kernel_rfl) (bi2 (nmL S4 (mR (.head _)) rfl (nmG (v := .ref 97) S4 (by kernel_rfl) (isFalse S4 (scI hc) (scD hc) (by kernel_rfl) (by kernel_rfl) fun s5 S5 => wpAny_truthy_bool ?_))))))))
  refine wpAny_execs_cons (wpAny_If (wpAny_isTrue_value (callN (nmB (v := .builtin "isinstance") S5 (by kernel_rfl) (by kernel_rfl) (bi2 (nmL S5 (mR (.head _)) rfl (nmG (v := .ref 116) S5 (by kernel_rfl) (isFalse S5 (scI hc) (scD hc) (by kernel_rfl) (by kernel_rfl) fun s6 S6 => wpAny_truthy_bool ?_))))))))
  refine wpAny_execs_cons (wpAny_If (wpAny_isTrue_value (callN (nmB (v := .builtin "isinstance") S6 (by kernel_rfl) (by kernel_rfl) (bi2 (nmL S6 (mR (.head _)) rfl (nmG (v := .ref 135) S6 (by kernel_rfl) (isFalse S6 (scI hc) (scD hc) (by kernel_rfl) (by kernel_rfl) fun s7 S7 => wpAny_truthy_bool ?_))))))))
  exact wpAny_execs_nil (wpAny_execs_nil (wpAny_execs_nil (wpAny_execs_nil (wpAny_execs_nil (h _ S7.out1)))))
end
end Mine
end
section
open PySem PySem.W PySem.Calls PyProof.Rows
set_option maxRecDepth 100000
namespace Mine
set_option linter.unusedVariables false
set_option maxHeartbeats 1000000
noncomputable def Sc.fr (wk : Addr) (c : Sc) : Sc := { c with freed := true, wk := wk, val := .none }
noncomputable def Dm.setS (σ : Dm) (t : It) (c : Sc) : Dm := { σ with scs := σ.scs.set t.i c }
section
variable {w : World} {s₀ s : Shared} {W W' X R : Led} {A : Around} {E : Value → Shared → Prop} {env : Env} {σ : Dm} {b : Bool} {Q : Value → Shared → Prop} {l : List Env}
theorem setS_at {t : It} {c c' : Sc} (h : σ.At t c) (e : c'.a = c.a) : (σ.setS t c').At t c' := ⟨by show (σ.scs.set t.i c')[t.i]? = _; rw [List.getElem?_set_self (List.getElem?_eq_some_iff.mp h.1).1], e.trans h.2⟩
theorem setS_setS {t : It} {c c' : Sc} : (σ.setS t c).setS t c' = σ.setS t c' := by unfold Dm.setS; simp
theorem uSd {t : It} {c c' : Sc} (h : σ.At t c) (e1 : c'.a = c.a := by rfl) (e2 : c'.d = c.d := by rfl) (e3 : c'.wl = c.wl := by rfl) : Upd (objs σ ++ R) c.d (.dict (scF c.num c.cnt c.wk c.freed c.val.val)) (.dict (scF c'.num c'.cnt c'.wk c'.freed c'.val.val)) (objs (σ.setS t c') ++ R) := by
  refine uS h.1 ?_
  obtain ⟨a, d, wl, wk, num, cnt, freed, val⟩ := c
  obtain ⟨a', d', wl', wk', num', cnt', freed', val'⟩ := c'
  cases e1; cases e2; cases e3
  exact .tail .head
theorem free_spec {A₀ : Ad} {t : It} {c : Sc} (S : Sp w s₀ (objs σ ++ R) s) (hA : Rm A 6) (hc : σ.At t c) (hwk : c.wk = c.wl) (okc : c.val.ok σ) (hl : σ.loose c.val) (hz : σ.zero.length ≤ 1000)
    (h : ∀ wk s', Sp w s₀ (objs ((σ.setS t (c.fr wk)).untake c.val) ++ R) s' → Q .none s') (eA₀ : σ.A = A₀ := by rfl) : wpAny (model pg w) A (call (.ref 548) [.ref A₀.ctr, .ref t.a]) Q E s := by
  subst eA₀
  refine callS [(k "thing", .ref t.a), (k "self", .ref σ.A.ctr)] S hA.lt rfl (by kernel_rfl) (BindsTo.of_eq rfl) (fun L s1 S1 => ?_)
  -- is_freed
  refine wpAny_execs_cons (asg (wpAny_Constant_bool (nmL S1 (mR (.head _)) rfl ?_)))
  have h1 : (σ.setS t { c with freed := true }).At t { c with freed := true } := setS_at hc rfl
  refine setA S1 (scI hc) (uSd (c' := { c with freed := true }) hc) (by kernel_rfl) fun s2 S2 => ?_
  -- weak
  refine wpAny_execs_cons (forI (L := L) (fun i X m R' => X = objs (σ.setS t { c with freed := true }) ∧ m = [(k "thing", .ref t.a), (k "self", .ref σ.A.ctr)] ∧ R' = R) S2 hA.2.2 ?_)
  refine Attribute_any_ (nmL S2 (mR (.head _)) rfl (getAr S2 (scI h1) (scD h1) rfl (by kernel_rfl) fun s3 S3 => ?_))
  have mwl : (c.wk, SO.list []) ∈ objs (σ.setS t { c with freed := true }) ++ ((L, .ns [(k "thing", .ref t.a), (k "self", .ref σ.A.ctr)]) :: R) := by
    have e : ((c.wk, SO.list []) : Addr × SO) = (c.wl, .list []) := by rw [hwk]
    rw [e]; exact mS (c := { c with freed := true }) (List.mem_of_getElem? h1.1) (.tail _ (.tail _ (.head _)))
  refine iterL S3 mwl fun I s4 S4 => ⟨I, _, _, [], _, _, _, rfl, Itr.list, S4, ⟨rfl, rfl, rfl⟩, ?_, ?_, ?_⟩
  · rintro i X m R' ⟨rfl, rfl, eR⟩; rw [eR]; exact mwl
  · rintro I i X m v R' s E ⟨rfl, rfl, rfl⟩ hv; simp at hv
  rintro X m R' s4 ⟨rfl, rfl, eR⟩ S4
  rw [eR] at S4
  -- weak = []
  refine wpAny_execs_cons (asg (List_ (wpAny_items_nil (newL S4 fun wk s5 S5 => nmL S5 (.tail _ (mR (.head _))) rfl ?_))))
  have S5 := S5.inn
  have h2 : (σ.setS t { c with freed := true, wk := wk }).At t { c with freed := true, wk := wk } := setS_at hc rfl
  have U2 := uSd (R := (wk, .list []) :: (L, .ns [(k "thing", .ref t.a), (k "self", .ref σ.A.ctr)]) :: R) (c' := { c with freed := true, wk := wk }) h1
  rw [setS_setS] at U2
  refine setA S5 (scI h1) U2 (by kernel_rfl) fun s6 S6 => ?_
  -- the pops
  refine wpAny_execs_cons (wpAny_If (wpAny_isTrue_value (callN (nmB (v := .builtin "isinstance") S6 (by kernel_rfl) (by kernel_rfl) (bi2 (nmL S6 (mR (.tail _ (.head _))) rfl (nmG (v := .ref 59) S6 (by kernel_rfl) (isTrueI S6 (scI h2) (by kernel_rfl) (wpAny_truthy_bool ?_)))))))))
  refine wpAny_execs_cons (wpAny_Expr (callM (Attribute_any_ (nmL S6 (mR (.tail _ (.head _))) rfl (getAr S6 (mF (σ := σ.setS t { c with freed := true, wk := wk }) (i := 3) rfl) (mF (σ := σ.setS t { c with freed := true, wk := wk }) (i := 4) rfl) rfl (by kernel_rfl) fun s7 S7 => ?_)))))
  refine mtDPop S7 (mF (σ := σ.setS t { c with freed := true, wk := wk }) (i := 5) rfl) ?_
  refine bm2 (Attribute_any_ (nmL S7 (mR (.tail _ (.head _))) rfl (getA S7 (scI h2) (scD h2) rfl (by kernel_rfl) fun v8 s8 ev S8 => ?_)))
  obtain ⟨t8, rfl⟩ := er_int ev
  refine wpAny_Constant_none (popNo S8 (mF (σ := σ.setS t { c with freed := true, wk := wk }) (i := 5) rfl) fun s9 S9 => ?_)
  refine wpAny_execs_cons (wpAny_Expr (callM (Attribute_any_ (nmL S9 (mR (.tail _ (.head _))) rfl (getAr S9 (mF (σ := σ.setS t { c with freed := true, wk := wk }) (i := 3) rfl) (mF (σ := σ.setS t { c with freed := true, wk := wk }) (i := 4) rfl) rfl (by kernel_rfl) fun s10 S10 => ?_)))))
  refine mtDPop S10 (mF (σ := σ.setS t { c with freed := true, wk := wk }) (i := 6) rfl) ?_
  refine bm2 (Attribute_any_ (nmL S10 (mR (.tail _ (.head _))) rfl (getA S10 (scI h2) (scD h2) rfl (by kernel_rfl) fun v11 s11 ev S11 => ?_)))
  obtain ⟨t11, rfl⟩ := er_int ev
  refine wpAny_Constant_none (popNo S11 (mF (σ := σ.setS t { c with freed := true, wk := wk }) (i := 6) rfl) fun s12 S12 => ?_)
  -- old, value = None
  refine wpAny_execs_cons (asgL S12 (Attribute_any_ (nmL S12 (mR (.tail _ (.head _))) rfl (getA S12 (scI h2) (scD h2) rfl (by kernel_rfl) (fun v13 s13 hv13 S13 => ⟨_, _, L, _, S13, uR (.tail .head), rfl, fun s14 S14 => ?_⟩) (by cases c.val <;> rfl)))))
  refine wpAny_execs_cons (asg (wpAny_Constant_none (nmL S14 (mR (.tail _ (.head _))) rfl ?_)))
  have h3 : (σ.setS t (c.fr wk)).At t (c.fr wk) := setS_at hc rfl
  have U3 := uSd (R := (wk, .list []) :: (L, .ns [(k "thing", .ref t.a), (k "self", .ref σ.A.ctr), (k "old", v13)]) :: R) (c' := c.fr wk) h2
  rw [setS_setS] at U3
  refine setA S14 (scI h2) U3 (by kernel_rfl) fun s15 S15 => ?_
  refine wpAny_execs_cons (wpAny_Expr (callM (nmL S15 (mR (.tail _ (.head _))) rfl (mtI (f := 506) S15 (mF (σ := σ.setS t (c.fr wk)) (i := 3) rfl) (mF (σ := σ.setS t (c.fr wk)) (i := 4) rfl) rfl (by kernel_rfl) (df2 S15 (by kernel_rfl) (nmL S15 (mR (.tail _ (.head _))) rfl (nmL S15 (mR (.tail _ (.head _))) rfl ⟨⟨_, S15⟩, ?_⟩)))))))
  refine put_off_ok (A₀ := σ.A) (x := c.val) S15 ((hA.down _).le (by decide)) hv13 (ok_of okc rfl) (by revert hl; cases c.val <;> exact fun h => h) hz fun s16 S16 => ?_
  obtain ⟨q1, q2, q3, q4, q5, q6, q7, q8, q9⟩ := untake_f (σ := σ.setS t (c.fr wk)) (x := c.val)
  have h4 : ((σ.setS t (c.fr wk)).untake c.val).At t (c.fr wk) := ⟨by rw [q3]; exact h3.1, h3.2⟩
  have A4 : ((σ.setS t (c.fr wk)).untake c.val).A = σ.A := q1
  generalize hσ : (σ.setS t (c.fr wk)).untake c.val = σ4 at S16 h4 A4
  refine wpAny_execs_nil ?_
  -- gone
  refine wpAny_execs_cons (asgL S16 (callN (nmG (v := .ref 447) S16 (by kernel_rfl) (df1 S16 (by kernel_rfl) (nmL S16 (mR (.tail _ (.head _))) rfl ⟨⟨_, S16⟩, ?_⟩)))))
  refine held_spec S16 ((hA.down _).le (by decide)) h4 fun gl s17 S17 => ⟨_, _, L, _, S17, uR (.tail (.tail .head)), rfl, fun s18 S18 => ?_⟩
  refine wpAny_execs_cons (wpAny_Expr (callN (nmG (v := .ref 454) S18 (by kernel_rfl) (df1 S18 (by kernel_rfl) (nmL S18 (mR (.tail _ (.tail _ (.head _)))) rfl ⟨⟨_, S18⟩, ?_⟩)))))
  refine empty_spec S18 ((hA.down _).le (by decide)) h4 fun s19 S19 => ?_
  have S19 := (S19.sub (W' := objs σ4 ++ ((gl, .list []) :: (L, _) :: R)) (.append_left (.cons_cons _ (.cons _ (.refl _))) _)).swap
  refine wpAny_execs_cons (forI (L := L) (fun i X m R' => X = objs σ4 ∧ R' = (gl, .list []) :: R) S19 hA.2.2 ?_)
  refine nmL S19 (mR (.head _)) rfl (iterL S19 (mR (.tail _ (.head _))) fun I s20 S20 => ⟨I, _, _, [], _, _, _, rfl, Itr.list, S20, ⟨rfl, rfl⟩, ?_, ?_, ?_⟩)
  · rintro i X m R' ⟨rfl, rfl⟩; exact mR (.tail _ (.head _))
  · rintro I i X m v R' s E ⟨rfl, rfl⟩ hv; simp at hv
  rintro X m R' s21 ⟨rfl, rfl⟩ S21
  refine wpAny_execs_nil (h wk s21 ?_)
  rw [hσ]
  exact S21.sub (.append_left (.cons _ (.cons _ (.refl _))) _)
end
end Mine
end
section
open PySem PySem.W PySem.Calls PyProof.Rows
set_option maxRecDepth 100000
namespace Mine
set_option linter.unusedVariables false
section
variable {σ σ' : Dm} {b : Bool} {j : Bool}
noncomputable def Dm.base (σ : Dm) (j : Bool) : Nat := ((σ.it false ++ σ.it true).map σ.vl).countP (isJ j)
noncomputable def zvs (σ : Dm) (ts : List It) : List DV := ts.map fun t => σ.vl (some t)
theorem cnt_ixs {g : Nat → Bool} : ∀ {ms : List (Option It)}, (∀ t, some t ∈ ms → g t.i = isJ j (σ.vl (some t))) → (ixs ms).countP g = (ms.map σ.vl).countP (isJ j)
  | [], _ => rfl
  | none :: ms, h => by
    show (ixs ms).countP g = (DV.none :: ms.map σ.vl).countP (isJ j)
    rw [cnt_ixs fun t ht => h t (.tail _ ht)]
    rfl
  | some t :: ms, h => by
    show (t.i :: ixs ms).countP g = (σ.vl (some t) :: ms.map σ.vl).countP (isJ j)
    rw [List.countP_cons, List.countP_cons, cnt_ixs fun t ht => h t (.tail _ ht), h t (.head _)]
theorem cnt_range {α : Type} {p : α → Bool} : ∀ (l : List α), l.countP p = (List.range l.length).countP fun i => (l[i]?.map p).getD false
  | [] => rfl
  | x :: l => by
    rw [List.length_cons, List.range_succ_eq_map, List.countP_cons, List.countP_cons, List.countP_map, cnt_range l]
    congr 1
theorem cnt_all (h : WF σ) : cntJ j σ.scs = σ.base j + (zvs σ σ.zero).countP (isJ j) := by
  unfold cntJ
  rw [cnt_range, ← h.perm.countP_eq]
  have key : ∀ t c, σ.At t c → ((σ.scs[t.i]?.map fun c => !c.freed && isJ j c.val).getD false) = isJ j (σ.vl (some t)) := fun t c hc => by
    rw [hc.1, vl_at hc]
    simp only [Option.map_some, Option.getD_some, (h.sc _ _ hc.1).2.1, Bool.not_false, Bool.true_and]
  have k1 : ∀ b, (ixs (σ.it b)).countP (fun i => (σ.scs[i]?.map fun c => !c.freed && isJ j c.val).getD false) = ((σ.it b).map σ.vl).countP (isJ j) := fun b => cnt_ixs fun t ht => by
    obtain ⟨c, hc, _⟩ := h.at1 b t ht
    exact key t c hc
  have k2 : (σ.zero.map It.i).countP (fun i => (σ.scs[i]?.map fun c => !c.freed && isJ j c.val).getD false) = (zvs σ σ.zero).countP (isJ j) := by
    unfold zvs
    rw [List.countP_map, List.countP_map]
    refine List.countP_congr fun t ht => ?_
    obtain ⟨c, hc, _⟩ := h.at0 t ht
    exact Eq.to_iff (congrArg (· = true) (key t c hc))
  rw [List.countP_append, List.countP_append, k1, k1, k2]
  unfold Dm.base
  rw [List.map_append, List.countP_append]
structure Fr2 (σ : Dm) (ts : List It) (σ' : Dm) : Prop where
  A : σ'.A = σ.A
  refs : σ'.refs = σ.refs
  zero : σ'.zero = []
  it : ∀ b, σ'.it b = σ.it b
  rest : ∀ t ∈ ts, ∃ c, σ'.At t c ∧ c.cnt = 0 ∧ c.freed = false ∧ c.wk = c.wl ∧ c.val = σ.vl (some t)
  kept : ∀ b t, some t ∈ σ.it b → ∃ c, σ'.At t c ∧ c.val = σ.vl (some t)
  cj : ∀ j, σ'.cj j = 1 + σ.base j + (zvs σ ts).countP (isJ j)
theorem Fr2.start {zp : Addr} {ts : List It} (h : WF σ) (hp : ts.Perm σ.zero) : Fr2 σ ts { σ with zp := zp, zero := [] } := by
  refine ⟨rfl, rfl, rfl, fun b => by cases b <;> rfl, fun t ht => ?_, fun b t ht => ?_, fun j => ?_⟩
  · obtain ⟨c, hc, h0⟩ := h.at0 t (hp.mem_iff.mp ht)
    obtain ⟨a1, a2, a3, a4⟩ := h.sc _ _ hc.1
    exact ⟨c, hc, h0, a2, a3, (vl_at hc).symm⟩
  · obtain ⟨c, hc, _⟩ := h.at1 b t ht
    exact ⟨c, hc, (vl_at hc).symm⟩
  · show σ.cj j = _
    rw [h.cj, cnt_all h]
    have : (zvs σ ts).countP (isJ j) = (zvs σ σ.zero).countP (isJ j) := (hp.map _).countP_eq _
    rw [this]; push_cast; lia
theorem Fr2.step {t : It} {ts : List It} {c : Sc} {wk : Addr} (h : WF σ) (F : Fr2 σ (t :: ts) σ') (hn : ((t :: ts).map It.i).Nodup) (hd : ∀ b u, some u ∈ σ.it b → u.i ≠ t.i) (hc : σ'.At t c) (hv : c.val = σ.vl (some t)) : Fr2 σ ts ((σ'.setS t (c.fr wk)).untake c.val) := by
  obtain ⟨q1, q2, q3, q4, q5, q6, q7, q8, q9⟩ := untake_f (σ := σ'.setS t (c.fr wk)) (x := c.val)
  have other : ∀ u d, u.i ≠ t.i → σ'.At u d → ((σ'.setS t (c.fr wk)).untake c.val).At u d := fun u d hne hu => ⟨by rw [q3]; show (σ'.scs.set t.i (c.fr wk))[u.i]? = _; rw [List.getElem?_set_ne (Ne.symm hne)]; exact hu.1, hu.2⟩
  rw [List.map_cons, List.nodup_cons] at hn
  refine ⟨q1.trans F.A, q2.trans F.refs, q4.trans F.zero, fun b => (q8 b).trans ((by cases b <;> rfl : (σ'.setS t (c.fr wk)).it b = σ'.it b).trans (F.it b)), fun u hu => ?_, fun b u hu => ?_, fun j => ?_⟩
  · obtain ⟨d, h1, h2⟩ := F.rest u (.tail _ hu)
    exact ⟨d, other u d (fun e => hn.1 (e ▸ List.mem_map_of_mem hu)) h1, h2⟩
  · obtain ⟨d, h1, h2⟩ := F.kept b u hu
    exact ⟨d, other u d (hd b u hu) h1, h2⟩
  · have e1 : (σ'.setS t (c.fr wk)).cj j = σ'.cj j := by cases j <;> rfl
    rw [q9, e1, F.cj j, hv]
    unfold zvs bN
    rw [List.map_cons, List.countP_cons]
    split <;> push_cast <;> lia
theorem Fr2.loose {t : It} {ts : List It} {c : Sc} (F : Fr2 σ (t :: ts) σ') (hv : c.val = σ.vl (some t)) : σ'.loose c.val := by
  cases q : c.val with
  | rf f =>
    show 1 < σ'.cj f.j
    rw [F.cj]
    unfold zvs
    rw [List.map_cons, List.countP_cons, ← hv, q]
    simp only [isJ, beq_self_eq_true, if_true]
    push_cast; lia
  | _ => trivial
end
end Mine
end
section
open PySem PyProof.Rows
set_option maxRecDepth 100000
namespace Mine
set_option linter.unusedVariables false
noncomputable def IntK (p : Keyed) : Prop := ∃ n t, p.1 = .int n t
noncomputable def IntA (xs : Array Keyed) : Prop := ∀ p, p ∈ xs.toList → IntK p
structure SB (a₀ : Array Keyed) (pd : Array (Nat × Nat × Nat)) (st : SortSt) : Prop where
  perm : (arrOf st).Perm a₀
  kind : kindOf st = oneType'
  failed : failedOf st = none
  pend : pendingOf st = pd
section
variable {prog : Program} {w : World} {A : Around} {E : Value → Shared → Prop} {s : Shared} {a₀ : Array Keyed} {pd : Array (Nat × Nat × Nat)} {st : SortSt}
theorem SB.size (h : SB a₀ pd st) : (arrOf st).size = a₀.size := h.perm.size_eq
theorem SB.ints (h : SB a₀ pd st) (h0 : IntA a₀) : IntA (arrOf st) := fun p hp => h0 p ((Array.perm_iff_toList_perm.mp h.perm).mem_iff.mp hp)
theorem SB.setArr (h : SB a₀ pd st) {xs : Array Keyed} (hp : xs.Perm (arrOf st)) : SB a₀ pd (setArr st xs) := ⟨hp.trans h.perm, h.kind, h.failed, h.pend⟩
theorem IntA.at {xs : Array Keyed} (h : IntA xs) {i : Nat} (hi : i < xs.size) : ∃ p, xs[i]? = some p ∧ IntK p := ⟨xs[i], getElem?_pos _ i hi, h _ (by simp)⟩
theorem wpS_ltI {x y : Keyed} {Q : Option Bool → SortSt → Prop} (hk : kindOf st = oneType') (hx : IntK x) (hy : IntK y) (h : ∀ b, Q (some b) st) : wpS (model prog w) A E s (lt' x y) Q st := by
  obtain ⟨x1, x2⟩ := x
  obtain ⟨y1, y2⟩ := y
  obtain ⟨a, t, rfl⟩ : ∃ n t, x1 = .int n t := hx
  obtain ⟨b, u, rfl⟩ : ∃ n t, y1 = .int n t := hy
  rw [lt'_eq]
  refine wpS_bind (wpS_get ?_)
  rw [hk, keyLt'_oneType]
  refine wpS_bind (wpS_lift (wpAny_attempt (oneLt_int ⟨rfl, ?_⟩)))
  exact wpS_pure (h _)
theorem wpS_elem {arr : Array Keyed} {i : Nat} {Q : Keyed → SortSt → Prop} (hi : i < arr.size) (h : ∀ p, arr[i]? = some p → Q p st) : wpS (model prog w) A E s (elem' arr i) Q st := by
  rw [elem'_eq, getElem?_pos _ i hi]
  exact wpS_pure (h _ (getElem?_pos _ i hi))
theorem wpS_ltP {i j : Nat} {Q : Option Bool → SortSt → Prop} (hB : SB a₀ pd st) (h0 : IntA a₀) (hi : i < a₀.size) (hj : j < a₀.size) (h : ∀ b, Q (some b) st) : wpS (model prog w) A E s (ltAt' i j) Q st := by
  rw [ltAt'_eq]
  refine wpS_bind (wpS_get ?_)
  have hI := hB.ints h0
  refine wpS_bind (wpS_elem (by rw [hB.size]; exact hi) fun p hp => wpS_bind (wpS_elem (by rw [hB.size]; exact hj) fun q hq => wpS_ltI hB.kind (hI _ ?_) (hI _ ?_) h))
  · exact Array.mem_toList_iff.mpr (Array.mem_of_getElem? hp)
  · exact Array.mem_toList_iff.mpr (Array.mem_of_getElem? hq)
theorem wpS_bin {lo n ok : Nat} {Q : Bool → SortSt → Prop} (h0 : IntA a₀) (hn : lo + n ≤ a₀.size) (hB : SB a₀ pd st) (h : ∀ st', SB a₀ pd st' → Q true st') : wpS (model prog w) A E s (binarySort' lo n ok) Q st := by
  rw [binarySort'_eq]
  refine wpS_bind (wpS_mono (wpS_forRange (I := fun k c st' => c = (none, ()) ∧ SB a₀ pd st') (Q := fun c st' => c = (none, ()) ∧ SB a₀ pd st') ?step (fun _ _ z => z) ⟨rfl, hB⟩) ?post)
  case post =>
    rintro c st' ⟨rfl, hB'⟩
    exact wpS_pure (h st' hB')
  case step =>
    rintro k c st' hak hkn ⟨rfl, hB'⟩
    refine wpS_bind (wpS_mono (wpS_forRange (I := fun x c st'' => st'' = st' ∧ ∃ l r, c = (none, l, r) ∧ r ≤ k) (Q := fun c st'' => st'' = st' ∧ ∃ l r, c = (none, l, r)) ?istep ?ifin ⟨rfl, 0, k, rfl, Nat.le_refl _⟩) ?ipost)
    case ifin => rintro c st'' ⟨rfl, l, r, rfl, _⟩; exact ⟨rfl, l, r, rfl⟩
    case istep =>
      rintro x c st'' _ hxk ⟨rfl, l, r, rfl, hr⟩
      dsimp only
      by_cases hge : l ≥ r
      · rw [if_pos hge]; exact wpS_pure ⟨rfl, l, r, rfl⟩
      · rw [if_neg hge]
        refine wpS_bind (wpS_ltP hB' h0 (by lia) (by lia) fun b => ?_)
        cases b with
        | true => exact wpS_pure ⟨rfl, l, _, rfl, by lia⟩
        | false => exact wpS_pure ⟨rfl, _, r, rfl, hr⟩
    case ipost =>
      rintro c st'' ⟨rfl, l, r, rfl⟩
      show wpS _ _ _ _ (do moveDown' (lo + k) (lo + l); pure (ForInStep.yield (none, ()))) _ _
      rw [moveDown'_eq]
      exact wpS_bind (wpS_modify (wpS_pure ⟨rfl, hB'.setArr (bubble_perm _ _ _)⟩))
theorem wpS_rev {i j : Nat} {Q : Unit → SortSt → Prop} (hB : SB a₀ pd st) (h : ∀ st', SB a₀ pd st' → Q () st') : wpS (model prog w) A E s (reverseSlice' i j) Q st := by
  rw [reverseSlice'_eq]; exact wpS_modify (h _ (hB.setArr (mirror_perm _ _ _ _)))
end
end Mine
end
section
open PySem PyProof.Rows
set_option maxRecDepth 100000
namespace Mine
set_option linter.unusedVariables false
section
variable {prog : Program} {w : World} {A : Around} {E : Value → Shared → Prop} {s : Shared} {a₀ : Array Keyed} {pd : Array (Nat × Nat × Nat)} {st : SortSt}
theorem wpS_count {lo nrem : Nat} {Q : Option Nat → SortSt → Prop} (h0 : IntA a₀) (hn : lo + nrem ≤ a₀.size) (h1 : 1 ≤ nrem) (hB : SB a₀ pd st)
    (h : ∀ m st', SB a₀ pd st' → 1 ≤ m → m ≤ nrem → Q (some m) st') : wpS (model prog w) A E s (countRun' lo nrem) Q st := by
  rw [countRun'_eq]
  have tail3 : ∀ (m : Nat) (st' : SortSt), 1 ≤ m → m ≤ nrem → SB a₀ pd st' → wpS (model prog w) A E s (forIn [m:nrem] ((none, m) : AscSt) fun _ __s => do
    let __x ← ltAt' (lo + __s.snd) (lo + __s.snd - 1)
    match __x with
    | some smaller => if smaller = true then pure (ForInStep.done (none, __s.snd)) else pure (ForInStep.yield (none, __s.snd + 1))
    | _ => pure (ForInStep.done (some none, __s.snd))) (fun c st'' => SB a₀ pd st'' ∧ ∃ m', c = (none, m') ∧ 1 ≤ m' ∧ m' ≤ nrem) st' := by
    intro m st' hm1 hm2 hB'
    refine wpS_forRange (I := fun x c st'' => SB a₀ pd st'' ∧ c = (none, x)) ?_ ?_ ⟨hB', rfl⟩
    · rintro x c st'' hax hxn ⟨hB2, rfl⟩
      dsimp only
      refine wpS_bind (wpS_ltP hB2 h0 (by lia) (by lia) fun b => ?_)
      cases b with
      | true => exact wpS_pure ⟨hB2, x, rfl, by lia, by lia⟩
      | false => exact wpS_pure ⟨hB2, rfl⟩
    · rintro c st'' ⟨hB2, rfl⟩
      exact ⟨hB2, _, rfl, by lia, by lia⟩
  dsimp only
  refine wpS_bind (wpS_mono (tail3 1 st (Nat.le_refl _) h1 hB) ?_)
  rintro c st1 ⟨hB1, n, rfl, n1, n2⟩
  dsimp only
  by_cases hnn : n = nrem
  · rw [if_pos (by simpa using hnn)]
    exact wpS_pure (h n st1 hB1 n1 n2)
  rw [if_neg (by simpa using hnn)]
  have go : ∀ st2 : SortSt, SB a₀ pd st2 → ∀ m : StateT SortSt Sem (Option Nat), (∀ st2, SB a₀ pd st2 → wpS (model prog w) A E s m Q st2) → wpS (model prog w) A E s m Q st2 := fun st2 h2 m hm => hm st2 h2
  by_cases hgt : n > 1
  · rw [if_pos hgt]
    refine wpS_bind (wpS_ltP hB1 h0 (by lia) (by lia) fun b => ?_)
    cases b with
    | true => exact wpS_pure (h n st1 hB1 n1 n2)
    | false =>
      refine wpS_bind (wpS_rev hB1 fun st2 hB2 => ?_)
      refine go st2 hB2 _ ?_
      intro st2 hB2
      refine wpS_bind (wpS_lift (wpAny_rule ⟨rfl, ?_⟩))
      refine wpS_bind (wpS_mono (wpS_forRange (I := fun x c st' => SB a₀ pd st' ∧ ∃ neq, c = (none, x, neq)) (Q := fun c st' => SB a₀ pd st' ∧ ∃ m neq, c = (none, m, neq) ∧ 1 ≤ m ∧ m ≤ nrem) ?_ ?_ ⟨hB2, 0, rfl⟩) ?_)
      · rintro x c st' hax hxn ⟨hB', neq, rfl⟩
        dsimp only
        refine wpS_bind (wpS_ltP hB' h0 (by lia) (by lia) fun b => ?_)
        cases b with
        | true =>
          simp only [if_true]
          split
          · exact wpS_bind (wpS_rev hB' fun st3 hB3 => wpS_pure ⟨hB3, _, rfl⟩)
          · exact wpS_pure ⟨hB', _, rfl⟩
        | false =>
          refine wpS_bind (wpS_ltP hB' h0 (by lia) (by lia) fun b => ?_)
          cases b with
          | true => exact wpS_pure ⟨hB', x, neq, rfl, by lia, by lia⟩
          | false => exact wpS_pure ⟨hB', _, rfl⟩
      · rintro c st' ⟨hB', neq, rfl⟩
        exact ⟨hB', _, neq, rfl, by lia, by lia⟩
      rintro c st' ⟨hB', m, neq, rfl, m1, m2⟩
      dsimp only
      split
      · refine wpS_bind (wpS_rev hB' fun st3 hB3 => wpS_bind (wpS_rev hB3 fun st4 hB4 => wpS_bind (wpS_mono (tail3 m st4 m1 m2 hB4) ?_)))
        rintro c st5 ⟨hB5, n5, rfl, n6, n7⟩
        exact wpS_pure (h n5 st5 hB5 n6 n7)
      · refine wpS_bind (wpS_rev hB' fun st4 hB4 => wpS_bind (wpS_mono (tail3 m st4 m1 m2 hB4) ?_))
        rintro c st5 ⟨hB5, n5, rfl, n6, n7⟩
        exact wpS_pure (h n5 st5 hB5 n6 n7)
  · rw [if_neg hgt]
    refine go st1 hB1 _ ?_
    intro st2 hB2
    refine wpS_bind (wpS_lift (wpAny_rule ⟨rfl, ?_⟩))
    refine wpS_bind (wpS_mono (wpS_forRange (I := fun x c st' => SB a₀ pd st' ∧ ∃ neq, c = (none, x, neq)) (Q := fun c st' => SB a₀ pd st' ∧ ∃ m neq, c = (none, m, neq) ∧ 1 ≤ m ∧ m ≤ nrem) ?_ ?_ ⟨hB2, 0, rfl⟩) ?_)
    · rintro x c st' hax hxn ⟨hB', neq, rfl⟩
      dsimp only
      refine wpS_bind (wpS_ltP hB' h0 (by lia) (by lia) fun b => ?_)
      cases b with
      | true =>
        simp only [if_true]
        split
        · exact wpS_bind (wpS_rev hB' fun st3 hB3 => wpS_pure ⟨hB3, _, rfl⟩)
        · exact wpS_pure ⟨hB', _, rfl⟩
      | false =>
        refine wpS_bind (wpS_ltP hB' h0 (by lia) (by lia) fun b => ?_)
        cases b with
        | true => exact wpS_pure ⟨hB', x, neq, rfl, by lia, by lia⟩
        | false => exact wpS_pure ⟨hB', _, rfl⟩
    · rintro c st' ⟨hB', neq, rfl⟩
      exact ⟨hB', _, neq, rfl, by lia, by lia⟩
    rintro c st' ⟨hB', m, neq, rfl, m1, m2⟩
    dsimp only
    split
    · refine wpS_bind (wpS_rev hB' fun st3 hB3 => wpS_bind (wpS_rev hB3 fun st4 hB4 => wpS_bind (wpS_mono (tail3 m st4 m1 m2 hB4) ?_)))
      rintro c st5 ⟨hB5, n5, rfl, n6, n7⟩
      exact wpS_pure (h n5 st5 hB5 n6 n7)
    · refine wpS_bind (wpS_rev hB' fun st4 hB4 => wpS_bind (wpS_mono (tail3 m st4 m1 m2 hB4) ?_))
      rintro c st5 ⟨hB5, n5, rfl, n6, n7⟩
      exact wpS_pure (h n5 st5 hB5 n6 n7)
end
end Mine
end
section
open PySem PyProof.Rows
set_option maxRecDepth 100000
namespace Mine
set_option linter.unusedVariables false
noncomputable def gallop' : Bool → Keyed → Array Keyed → Nat → Nat → Nat → StateT SortSt Sem (Option Nat) := sortPriv% PySem.Builtin.gallop
theorem gallop'_eq (left : Bool) (key : Keyed) (arr : Array Keyed) (base n hint : Nat) : gallop' left key arr base n hint = (do
  let beyond (i : Nat) : StateT SortSt Sem (Option Bool) := do
    let x ← elem' arr (base + i)
    if left then lt' x key else return (← lt' key x).map (!·)
  let mut lastofs := 0
  let mut ofs := 1
  let mut lo := 0
  let mut hi := 0
  let some right ← beyond hint | return none
  if right then
    let maxofs := n - hint
    for _ in [0:n] do
      if ofs ≥ maxofs then break
      let some more ← beyond (hint + ofs) | return none
      if !more then break
      lastofs := ofs
      ofs := 2 * ofs + 1
    lo := hint + lastofs + 1
    hi := hint + min ofs maxofs
  else
    let maxofs := hint + 1
    for _ in [0:n] do
      if ofs ≥ maxofs then break
      let some found ← beyond (hint - ofs) | return none
      if found then break
      lastofs := ofs
      ofs := 2 * ofs + 1
    lo := hint + 1 - min ofs maxofs
    hi := hint - lastofs
  for _ in [0:n] do
    if lo ≥ hi then break
    let m := lo + (hi - lo) / 2
    let some more ← beyond m | return none
    if more then lo := m + 1 else hi := m
  return some hi) := rfl
section
variable {prog : Program} {w : World} {A : Around} {E : Value → Shared → Prop} {s : Shared} {a₀ : Array Keyed} {pd : Array (Nat × Nat × Nat)} {st : SortSt}
theorem wpS_gallop {left : Bool} {key : Keyed} {arr : Array Keyed} {base n hint : Nat} {Q : Option Nat → SortSt → Prop} (hk : kindOf st = oneType') (hkey : IntK key) (harr : IntA arr) (hh : hint < n) (hn : base + n ≤ arr.size)
    (h : ∀ k, k ≤ n → Q (some k) st) : wpS (model prog w) A E s (gallop' left key arr base n hint) Q st := by
  rw [gallop'_eq]
  have bey : ∀ (i : Nat) (Q : Option Bool → SortSt → Prop), i < n → (∀ b, Q (some b) st) → wpS (model prog w) A E s (do
      let x ← elem' arr (base + i)
      if left then lt' x key else return (← lt' key x).map (!·)) Q st := by
    intro i Q h1 h
    refine wpS_bind (wpS_elem (by lia) fun p hp => ?_)
    have hp : IntK p := harr p (Array.mem_toList_iff.mpr (Array.mem_of_getElem? hp))
    cases left with
    | true => exact wpS_ltI hk hp hkey h
    | false => exact wpS_bind (wpS_ltI hk hkey hp fun b => wpS_pure (h _))
  dsimp only
  refine wpS_bind (bey hint _ hh fun right => ?_)
  dsimp only
  cases right with
  | true =>
    rw [if_pos rfl]
    refine wpS_bind (wpS_mono (wpS_forRange (a := 0) (I := fun x c st' => st' = st ∧ ∃ la ofs, c = (none, la, ofs) ∧ la < n - hint) (Q := fun c st' => st' = st ∧ ∃ la ofs, c = (none, la, ofs)) ?_ ?_ ⟨rfl, 0, 1, rfl, by lia⟩) ?_)
    · rintro x c st' _ _ ⟨rfl, la, ofs, rfl, hl⟩
      dsimp only
      by_cases q : ofs ≥ n - hint
      · rw [if_pos q]; exact wpS_pure ⟨rfl, la, ofs, rfl⟩
      · rw [if_neg q]
        refine wpS_bind (bey _ _ (by lia) fun more => ?_)
        cases more with
        | true => exact wpS_pure ⟨rfl, _, _, rfl, by lia⟩
        | false => exact wpS_pure ⟨rfl, _, _, rfl⟩
    · rintro c st' ⟨rfl, la, ofs, rfl, _⟩
      exact ⟨rfl, la, ofs, rfl⟩
    rintro c st' ⟨rfl, la, ofs, rfl⟩
    dsimp only
    refine wpS_bind (wpS_mono (wpS_forRange (a := 0) (I := fun x c st2 => st2 = st' ∧ ∃ l1 h1, c = (none, l1, h1) ∧ h1 ≤ n) (Q := fun c st2 => st2 = st' ∧ ∃ l1 h1, c = (none, l1, h1) ∧ h1 ≤ n) ?_ (fun _ _ z => z) ⟨rfl, _, _, rfl, by lia⟩) ?_)
    · rintro x c st' _ _ ⟨rfl, l1, h1, rfl, hhi⟩
      dsimp only
      by_cases q : l1 ≥ h1
      · rw [if_pos q]; exact wpS_pure ⟨rfl, l1, h1, rfl, hhi⟩
      · rw [if_neg q]
        refine wpS_bind (bey _ _ (by lia) fun more => ?_)
        cases more with
        | true => exact wpS_pure ⟨rfl, _, _, rfl, hhi⟩
        | false => exact wpS_pure ⟨rfl, _, _, rfl, by lia⟩
    · rintro c st' ⟨rfl, l1, h1, rfl, hhi⟩
      exact wpS_pure (h h1 hhi)
  | false =>
    rw [if_neg Bool.false_ne_true]
    refine wpS_bind (wpS_mono (wpS_forRange (a := 0) (I := fun x c st' => st' = st ∧ ∃ la ofs, c = (none, la, ofs)) (Q := fun c st' => st' = st ∧ ∃ la ofs, c = (none, la, ofs)) ?_ (fun _ _ z => z) ⟨rfl, 0, 1, rfl⟩) ?_)
    · rintro x c st' _ _ ⟨rfl, la, ofs, rfl⟩
      dsimp only
      by_cases q : ofs ≥ hint + 1
      · rw [if_pos q]; exact wpS_pure ⟨rfl, la, ofs, rfl⟩
      · rw [if_neg q]
        refine wpS_bind (bey _ _ (by lia) fun more => ?_)
        cases more with
        | true => exact wpS_pure ⟨rfl, _, _, rfl⟩
        | false => exact wpS_pure ⟨rfl, _, _, rfl⟩
    rintro c st' ⟨rfl, la, ofs, rfl⟩
    dsimp only
    refine wpS_bind (wpS_mono (wpS_forRange (a := 0) (I := fun x c st2 => st2 = st' ∧ ∃ l1 h1, c = (none, l1, h1) ∧ h1 ≤ n) (Q := fun c st2 => st2 = st' ∧ ∃ l1 h1, c = (none, l1, h1) ∧ h1 ≤ n) ?_ (fun _ _ z => z) ⟨rfl, _, _, rfl, by lia⟩) ?_)
    · rintro x c st' _ _ ⟨rfl, l1, h1, rfl, hhi⟩
      dsimp only
      by_cases q : l1 ≥ h1
      · rw [if_pos q]; exact wpS_pure ⟨rfl, l1, h1, rfl, hhi⟩
      · rw [if_neg q]
        refine wpS_bind (bey _ _ (by lia) fun more => ?_)
        cases more with
        | true => exact wpS_pure ⟨rfl, _, _, rfl, hhi⟩
        | false => exact wpS_pure ⟨rfl, _, _, rfl, by lia⟩
    · rintro c st' ⟨rfl, l1, h1, rfl, hhi⟩
      exact wpS_pure (h h1 hhi)
end
end Mine
end
section
open PySem PyProof.Rows
set_option maxRecDepth 100000
namespace Mine
set_option linter.unusedVariables false
noncomputable def setMinGallop' : Nat → StateT SortSt Sem Unit := sortPriv% PySem.Builtin.setMinGallop
theorem setMinGallop'_eq (g : Nat) : setMinGallop' g = modify fun s => SortSt.mk' (kindOf s) (arrOf s) (pendingOf s) g (failedOf s) := rfl
noncomputable def mergeLo' : Array Keyed → Array Keyed → StateT SortSt Sem (Array Keyed) := sortPriv% PySem.Builtin.mergeLo
noncomputable def PP (a b out : Array Keyed) (i j : Nat) : Prop := out.toList.Perm (a.toList.take i ++ b.toList.take j)
section
variable {a b out : Array Keyed} {i j : Nat}
theorem PP.pushB {p : Keyed} (h : PP a b out i j) (hp : b[j]? = some p) : PP a b (out.push p) i (j + 1) := by
  unfold PP at h ⊢
  rw [Array.toList_push, List.take_add_one, Array.getElem?_toList, hp, ← List.append_assoc]
  exact h.append_right _
theorem PP.pushA {p : Keyed} (h : PP a b out i j) (hp : a[i]? = some p) : PP a b (out.push p) (i + 1) j := by
  unfold PP at h ⊢
  rw [Array.toList_push, List.take_add_one, Array.getElem?_toList, hp]
  refine (h.append_right [p]).trans ?_
  rw [List.append_assoc, List.append_assoc]
  exact List.perm_append_comm.append_left _
theorem take_ext {α : Type} {l : List α} {i k : Nat} : l.take (i + k) = l.take i ++ (l.drop i).take k := by rw [List.take_add]
theorem PP.extA {k : Nat} (h : PP a b out i j) : PP a b (out ++ a.extract i (i + k)) (i + k) j := by
  unfold PP at h ⊢
  rw [Array.toList_append, Array.toList_extract, List.extract_eq_take_drop, Nat.add_sub_cancel_left, take_ext]
  refine (h.append_right _).trans ?_
  rw [List.append_assoc, List.append_assoc]
  exact List.perm_append_comm.append_left _
theorem PP.extB {k : Nat} (h : PP a b out i j) : PP a b (out ++ b.extract j (j + k)) i (j + k) := by
  unfold PP at h ⊢
  rw [Array.toList_append, Array.toList_extract, List.extract_eq_take_drop, Nat.add_sub_cancel_left, take_ext, ← List.append_assoc]
  exact h.append_right _
theorem PP.all (h : PP a b out a.size b.size) : out.Perm (a ++ b) := by
  unfold PP at h
  rw [List.take_of_length_le (by simp), List.take_of_length_le (by simp)] at h
  rw [Array.perm_iff_toList_perm, Array.toList_append]; exact h
theorem PP.done (h : PP a b out i j) (hi : i ≤ a.size) (hj : j ≤ b.size) : (out ++ a.extract i a.size ++ b.extract j b.size).Perm (a ++ b) := by
  have h1 := h.extA (k := a.size - i)
  rw [Nat.add_sub_cancel' hi] at h1
  have h2 := h1.extB (k := b.size - j)
  rw [Nat.add_sub_cancel' hj] at h2
  exact h2.all
theorem PP.lastA (h : PP a b out i j) (hi : i ≤ a.size) (hj : j ≤ b.size) : (out ++ b.extract j b.size ++ a.extract i a.size).Perm (a ++ b) := by
  have h1 := h.extB (k := b.size - j)
  rw [Nat.add_sub_cancel' hj] at h1
  have h2 := h1.extA (k := a.size - i)
  rw [Nat.add_sub_cancel' hi] at h2
  exact h2.all
end
section
variable {prog : Program} {w : World} {A : Around} {E : Value → Shared → Prop} {s : Shared} {a₀ : Array Keyed} {pd : Array (Nat × Nat × Nat)} {st : SortSt}
theorem SB.gal (h : SB a₀ pd st) (g : Nat) : SB a₀ pd (SortSt.mk' (kindOf st) (arrOf st) (pendingOf st) g (failedOf st)) := ⟨h.perm, h.kind, h.failed, h.pend⟩
noncomputable def Sm (st st' : SortSt) : Prop := arrOf st' = arrOf st ∧ kindOf st' = kindOf st ∧ failedOf st' = failedOf st ∧ pendingOf st' = pendingOf st
theorem Sm.refl : Sm st st := ⟨rfl, rfl, rfl, rfl⟩
theorem wpS_setG {st st' : SortSt} {g : Nat} {Q : Unit → SortSt → Prop} (hs : Sm st st') (h : ∀ st2, Sm st st2 → Q () st2) : wpS (model prog w) A E s (setMinGallop' g) Q st' := by
  rw [setMinGallop'_eq]; exact wpS_modify (h _ hs)
noncomputable abbrev LoSt := Option (Array Keyed) × Array Keyed × Nat × Nat × Nat × Nat × Nat
noncomputable def loK (a b out : Array Keyed) (ia ib g k k2 : Nat) : StateT SortSt Sem (ForInStep LoSt) := do
  let x ← elem' a ia
  if ia + 1 + 1 == a.size then pure (.done (some (out.push x ++ b.extract ib b.size ++ a.extract (ia + 1) a.size), out.push x, ia + 1, ib, g, k, k2))
  else if (decide (k < 7) && decide (k2 < 7)) then pure (.done (none, out.push x, ia + 1, ib, g, k, k2))
  else pure (.yield (none, out.push x, ia + 1, ib, g, k, k2))
noncomputable def loH (a b out : Array Keyed) (ia ib g k bc : Nat) : StateT SortSt Sem (ForInStep LoSt) := do
  let x ← elem' b ib
  if ib + 1 == b.size then pure (.done (some (out.push x ++ a.extract ia a.size ++ b.extract (ib + 1) b.size), out.push x, ia, ib + 1, g, k, bc))
  else do
    let y ← elem' a ia
    let r ← gallop' true y b (ib + 1) (b.size - (ib + 1)) 0
    match r with
    | some k2 =>
      if k2 > 0 then
        if ib + 1 + k2 == b.size then pure (.done (some (out.push x ++ b.extract (ib + 1) (ib + 1 + k2) ++ a.extract ia a.size ++ b.extract (ib + 1 + k2) b.size), out.push x ++ b.extract (ib + 1) (ib + 1 + k2), ia, ib + 1 + k2, g, k, k2))
        else loK a b (out.push x ++ b.extract (ib + 1) (ib + 1 + k2)) ia (ib + 1 + k2) g k k2
      else loK a b (out.push x) ia (ib + 1) g k k2
    | _ => pure (.done (some (out.push x ++ a.extract ia a.size ++ b.extract (ib + 1) b.size), out.push x, ia, ib + 1, g, k, bc))
noncomputable def loG (a b out : Array Keyed) (ia ib g ac bc : Nat) : StateT SortSt Sem (ForInStep LoSt) := do
  setMinGallop' g
  let x ← elem' b ib
  let r ← gallop' false x a ia (a.size - ia) 0
  match r with
  | some k =>
    if k > 0 then
      if ia + k + 1 == a.size then pure (.done (some (out ++ a.extract ia (ia + k) ++ b.extract ib b.size ++ a.extract (ia + k) a.size), out ++ a.extract ia (ia + k), ia + k, ib, g, k, bc))
      else if ia + k == a.size then pure (.done (some (out ++ a.extract ia (ia + k) ++ a.extract (ia + k) a.size ++ b.extract ib b.size), out ++ a.extract ia (ia + k), ia + k, ib, g, k, bc))
      else loH a b (out ++ a.extract ia (ia + k)) (ia + k) ib g k bc
    else loH a b out ia ib g k bc
  | _ => pure (.done (some (out ++ a.extract ia a.size ++ b.extract ib b.size), out, ia, ib, g, ac, bc))
noncomputable def LoQ (a b : Array Keyed) (st : SortSt) (n : Nat) (r : ForInStep LoSt) (st' : SortSt) : Prop := Sm st st' ∧ match r with
  | .done c => (∃ r z, c = (some r, z) ∧ r.Perm (a ++ b)) ∨ ∃ out i j g p q, c = (none, out, i, j, g, p, q) ∧ PP a b out i j ∧ i + 1 < a.size ∧ j < b.size ∧ n ≤ i + j
  | .yield c => ∃ out i j g p q, c = (none, out, i, j, g, p, q) ∧ PP a b out i j ∧ i + 1 < a.size ∧ j < b.size ∧ n ≤ i + j
noncomputable abbrev LoS1 := Option (Array Keyed) × Array Keyed × Nat × Nat × Nat × Nat
noncomputable abbrev LoS0 := Option (Array Keyed) × Array Keyed × Nat × Nat × Nat
noncomputable def loA (a b : Array Keyed) (mg : Nat) (c : LoS1) : StateT SortSt Sem (ForInStep LoS1) := do
  let y ← elem' b c.2.2.2.1
  let x ← elem' a c.2.2.1
  let r ← lt' y x
  match r with
  | some bw =>
    if bw then do
      let y ← elem' b c.2.2.2.1
      if c.2.2.2.1 + 1 == b.size then pure (.done (some (c.2.1.push y ++ a.extract c.2.2.1 a.size ++ b.extract (c.2.2.2.1 + 1) b.size), c.2.1.push y, c.2.2.1, c.2.2.2.1 + 1, 0, c.2.2.2.2.2 + 1))
      else if c.2.2.2.2.2 + 1 ≥ mg then pure (.done (none, c.2.1.push y, c.2.2.1, c.2.2.2.1 + 1, 0, c.2.2.2.2.2 + 1))
      else pure (.yield (none, c.2.1.push y, c.2.2.1, c.2.2.2.1 + 1, 0, c.2.2.2.2.2 + 1))
    else do
      let x ← elem' a c.2.2.1
      if c.2.2.1 + 1 + 1 == a.size then pure (.done (some (c.2.1.push x ++ b.extract c.2.2.2.1 b.size ++ a.extract (c.2.2.1 + 1) a.size), c.2.1.push x, c.2.2.1 + 1, c.2.2.2.1, c.2.2.2.2.1 + 1, 0))
      else if c.2.2.2.2.1 + 1 ≥ mg then pure (.done (none, c.2.1.push x, c.2.2.1 + 1, c.2.2.2.1, c.2.2.2.2.1 + 1, 0))
      else pure (.yield (none, c.2.1.push x, c.2.2.1 + 1, c.2.2.2.1, c.2.2.2.2.1 + 1, 0))
  | _ => pure (.done (some (c.2.1 ++ a.extract c.2.2.1 a.size ++ b.extract c.2.2.2.1 b.size), c.2.1, c.2.2.1, c.2.2.2.1, c.2.2.2.2.1, c.2.2.2.2.2))
noncomputable def loB (a b : Array Keyed) (c : LoSt) : StateT SortSt Sem (ForInStep LoSt) :=
  if c.2.2.2.2.1 > 1 then loG a b c.2.1 c.2.2.1 c.2.2.2.1 (c.2.2.2.2.1 - 1) c.2.2.2.2.2.1 c.2.2.2.2.2.2 else loG a b c.2.1 c.2.2.1 c.2.2.2.1 c.2.2.2.2.1 c.2.2.2.2.2.1 c.2.2.2.2.2.2
noncomputable def loC (a b : Array Keyed) (c : LoS0) : StateT SortSt Sem (ForInStep LoS0) := do
  let r ← forIn [0:a.size + b.size] ((none, c.2.1, c.2.2.1, c.2.2.2.1, 0, 0) : LoS1) fun _ d => loA a b c.2.2.2.2 d
  Break.runK.match_1 (motive := fun _ => StateT SortSt Sem (ForInStep LoS0)) r.1 (fun v => pure (.done (some v, r.2.1, r.2.2.1, r.2.2.2.1, c.2.2.2.2))) fun _ => do
    liftM (rule "list.sort.gallop")
    let r2 ← forIn [0:a.size + b.size] ((none, r.2.1, r.2.2.1, r.2.2.2.1, c.2.2.2.2 + 1, r.2.2.2.2.1, r.2.2.2.2.2) : LoSt) fun _ d => loB a b d
    Break.runK.match_1 (motive := fun _ => StateT SortSt Sem (ForInStep LoS0)) r2.1 (fun v => pure (.done (some v, r2.2.1, r2.2.2.1, r2.2.2.2.1, r2.2.2.2.2.1))) fun _ => do
      setMinGallop' (r2.2.2.2.2.1 + 1)
      pure (.yield (none, r2.2.1, r2.2.2.1, r2.2.2.2.1, r2.2.2.2.2.1 + 1))
theorem mergeLo'_eq (a b : Array Keyed) : mergeLo' a b = (do
  liftM (rule "list.sort.merge-lo")
  let x ← elem' b 0
  if 1 == b.size then pure (#[x] ++ a.extract 0 a.size ++ b.extract 1 b.size)
  else if 0 + 1 == a.size then pure (#[x] ++ b.extract 1 b.size ++ a.extract 0 a.size)
  else do
    let st ← get
    let r ← forIn [0:a.size + b.size] ((none, #[x], 0, 1, gallopOf st) : LoS0) fun _ d => loC a b d
    Break.runK.match_1 (motive := fun _ => StateT SortSt Sem (Array Keyed)) r.1 (fun v => pure v) fun _ => liftM (unsupported "internal:list.sort.merge-bound" : Sem (Array Keyed))) := rfl
theorem wpS_loK {a b out : Array Keyed} {st' : SortSt} {i j g k k2 n : Nat} (hs : Sm st st') (P : PP a b out i j) (hi : i + 1 < a.size) (hj : j < b.size) (hn : n ≤ i + j) : wpS (model prog w) A E s (loK a b out i j g k k2) (LoQ a b st n) st' := by
  refine wpS_bind (wpS_elem (by lia) fun x hx => ?_)
  have P7 := P.pushA hx
  by_cases q5 : i + 1 + 1 = a.size
  · rw [if_pos (by simpa using q5)]
    exact wpS_pure ⟨hs, .inl ⟨_, _, rfl, P7.lastA (by lia) (by lia)⟩⟩
  rw [if_neg (by simpa using q5)]
  split
  · exact wpS_pure ⟨hs, .inr ⟨_, _, _, _, _, _, rfl, P7, by lia, hj, by lia⟩⟩
  · exact wpS_pure ⟨hs, _, _, _, _, _, _, rfl, P7, by lia, hj, by lia⟩
theorem wpS_loH {a b out : Array Keyed} {st' : SortSt} {i j g k bc n : Nat} (hk : kindOf st = oneType') (ha : IntA a) (hb : IntA b) (hs : Sm st st') (P : PP a b out i j) (hi : i + 1 < a.size) (hj : j < b.size) (hn : n ≤ i + j) : wpS (model prog w) A E s (loH a b out i j g k bc) (LoQ a b st n) st' := by
  refine wpS_bind (wpS_elem hj fun x hx => ?_)
  have P5 := P.pushB hx
  by_cases q3 : j + 1 = b.size
  · rw [if_pos (by simpa using q3)]
    exact wpS_pure ⟨hs, .inl ⟨_, _, rfl, P5.done (by lia) (by lia)⟩⟩
  rw [if_neg (by simpa using q3)]
  refine wpS_bind (wpS_elem (by lia) fun y hy => ?_)
  refine wpS_bind (wpS_gallop (hs.2.1.trans hk) (ha _ (Array.mem_toList_iff.mpr (Array.mem_of_getElem? hy))) hb (by lia) (by lia) fun k2 hk2 => ?_)
  by_cases k20 : k2 > 0
  · show wpS _ _ _ _ (if k2 > 0 then _ else _) _ _
    rw [if_pos k20]
    have P6 := P5.extB (k := k2)
    by_cases q4 : j + 1 + k2 = b.size
    · rw [if_pos (by simpa using q4)]
      exact wpS_pure ⟨hs, .inl ⟨_, _, rfl, P6.done (by lia) (by lia)⟩⟩
    rw [if_neg (by simpa using q4)]
    exact wpS_loK hs P6 hi (by lia) (by lia)
  · show wpS _ _ _ _ (if k2 > 0 then _ else _) _ _
    rw [if_neg k20]
    exact wpS_loK hs P5 hi (by lia) (by lia)
theorem wpS_loG {a b out : Array Keyed} {st' : SortSt} {i j g ac bc n : Nat} (hk : kindOf st = oneType') (ha : IntA a) (hb : IntA b) (hs : Sm st st') (P : PP a b out i j) (hi : i + 1 < a.size) (hj : j < b.size) (hn : n ≤ i + j) : wpS (model prog w) A E s (loG a b out i j g ac bc) (LoQ a b st n) st' := by
  refine wpS_bind (wpS_setG hs fun st3 hs3 => ?_)
  refine wpS_bind (wpS_elem hj fun x hx => ?_)
  refine wpS_bind (wpS_gallop (hs3.2.1.trans hk) (hb _ (Array.mem_toList_iff.mpr (Array.mem_of_getElem? hx))) ha (by lia) (by lia) fun k hk1 => ?_)
  by_cases k0 : k > 0
  · show wpS _ _ _ _ (if k > 0 then _ else _) _ _
    rw [if_pos k0]
    have P4 := P.extA (k := k)
    by_cases q1 : i + k + 1 = a.size
    · rw [if_pos (by simpa using q1)]
      exact wpS_pure ⟨hs3, .inl ⟨_, _, rfl, P4.lastA (by lia) (by lia)⟩⟩
    rw [if_neg (by simpa using q1)]
    by_cases q2 : i + k = a.size
    · rw [if_pos (by simpa using q2)]
      exact wpS_pure ⟨hs3, .inl ⟨_, _, rfl, P4.done (by lia) (by lia)⟩⟩
    rw [if_neg (by simpa using q2)]
    exact wpS_loH hk ha hb hs3 P4 (by lia) hj (by lia)
  · show wpS _ _ _ _ (if k > 0 then _ else _) _ _
    rw [if_neg k0]
    exact wpS_loH hk ha hb hs3 P hi hj hn
noncomputable def LoP (a b : Array Keyed) (n : Nat) (out : Array Keyed) (i j : Nat) : Prop := PP a b out i j ∧ i + 1 < a.size ∧ j < b.size ∧ n ≤ i + j
theorem wpS_loA {a b : Array Keyed} {st : SortSt} {mg n p q i j : Nat} {out : Array Keyed} {Q : ForInStep LoS1 → SortSt → Prop} (hk : kindOf st = oneType') (ha : IntA a) (hb : IntA b) (P : LoP a b n out i j)
    (h1 : ∀ r z, r.Perm (a ++ b) → Q (.done (some r, z)) st) (h2 : ∀ out i j p q, LoP a b (n + 1) out i j → Q (.done (none, out, i, j, p, q)) st ∧ Q (.yield (none, out, i, j, p, q)) st) : wpS (model prog w) A E s (loA a b mg (none, out, i, j, p, q)) Q st := by
  obtain ⟨P2, hi2, hj2, hm2⟩ := P
  refine wpS_bind (wpS_elem hj2 fun eb heb => wpS_bind (wpS_elem (Nat.lt_of_succ_lt hi2) fun ea hea => wpS_bind (wpS_ltI hk (hb _ (Array.mem_toList_iff.mpr (Array.mem_of_getElem? heb))) (ha _ (Array.mem_toList_iff.mpr (Array.mem_of_getElem? hea))) fun bw => ?_)))
  cases bw with
  | true =>
    refine wpS_bind (wpS_elem hj2 fun eb heb => ?_)
    split
    · exact wpS_pure (h1 _ _ ((P2.pushB heb).done (by lia) (by lia)))
    · rename_i q3
      have q3 : j + 1 ≠ b.size := by simpa using q3
      have z := h2 (out.push eb) i (j + 1) 0 (q + 1) ⟨P2.pushB heb, hi2, by lia, by lia⟩
      split
      · exact wpS_pure z.1
      · exact wpS_pure z.2
  | false =>
    refine wpS_bind (wpS_elem (Nat.lt_of_succ_lt hi2) fun ea hea => ?_)
    split
    · exact wpS_pure (h1 _ _ ((P2.pushA hea).lastA (by lia) (by lia)))
    · rename_i q3
      have q3 : i + 1 + 1 ≠ a.size := by simpa using q3
      have z := h2 (out.push ea) (i + 1) j (p + 1) 0 ⟨P2.pushA hea, by lia, hj2, by lia⟩
      split
      · exact wpS_pure z.1
      · exact wpS_pure z.2
theorem wpS_loC {a b : Array Keyed} {st st1 : SortSt} {n g i j : Nat} {out : Array Keyed} {Q : ForInStep LoS0 → SortSt → Prop} (hk : kindOf st = oneType') (ha : IntA a) (hb : IntA b) (hs : Sm st st1) (P : LoP a b n out i j)
    (h1 : ∀ st2 r z, Sm st st2 → r.Perm (a ++ b) → Q (.done (some r, z)) st2) (h2 : ∀ st2 out i j g, Sm st st2 → LoP a b (n + 1) out i j → Q (.yield (none, out, i, j, g)) st2) : wpS (model prog w) A E s (loC a b (none, out, i, j, g)) Q st1 := by
  have hz : 1 ≤ a.size + b.size := by have := P.2.1; lia
  refine wpS_bind (wpS_mono (wpS_forRange (a := 0)
    (I := fun y c st' => st' = st1 ∧ ∃ out i j p q, c = (none, out, i, j, p, q) ∧ LoP a b (n + min y 1) out i j)
    (Q := fun c st' => st' = st1 ∧ ((∃ r z, c = (some r, z) ∧ r.Perm (a ++ b)) ∨ ∃ out i j p q, c = (none, out, i, j, p, q) ∧ LoP a b (n + 1) out i j)) ?_ ?_ ⟨rfl, _, _, _, _, _, rfl, P⟩) ?_)
  · rintro y c st' _ _ ⟨rfl, out, i', j', p, q, rfl, P2⟩
    refine wpS_loA (hs.2.1.trans hk) ha hb P2 (fun r z hr => ⟨rfl, .inl ⟨r, z, rfl, hr⟩⟩) fun out i j p q P3 => ?_
    have P4 : LoP a b (n + 1) out i j := ⟨P3.1, P3.2.1, P3.2.2.1, by have := P3.2.2.2; lia⟩
    exact ⟨⟨rfl, .inr ⟨_, _, _, _, _, rfl, P4⟩⟩, rfl, _, _, _, _, _, rfl, by rw [Nat.min_eq_right (Nat.le_add_left 1 y)]; exact P4⟩
  · rintro c st' ⟨rfl, out, i', j', p, q, rfl, P2⟩
    exact ⟨rfl, .inr ⟨_, _, _, _, _, rfl, by rwa [show min (max 0 (a.size + b.size)) 1 = 1 by lia] at P2⟩⟩
  rintro c st' ⟨rfl, ⟨r, z, rfl, hr⟩ | ⟨out, i', j', p, q, rfl, P2⟩⟩
  · exact wpS_pure (h1 _ _ _ hs hr)
  refine wpS_bind (wpS_lift (wpAny_rule ⟨rfl, ?_⟩))
  refine wpS_bind (wpS_mono (wpS_forRange (a := 0)
    (I := fun y c st' => LoQ a b st (n + 1) (.yield c) st') (Q := fun c st' => LoQ a b st (n + 1) (.done c) st') ?_ ?_ ⟨hs, _, _, _, _, _, _, rfl, P2⟩) ?_)
  · rintro y c st2 _ _ ⟨hs2, out, i2, j2, g2, p2, q2, rfl, P3, hi3, hj3, hm3⟩
    show wpS _ _ _ _ (if g2 > 1 then loG a b out i2 j2 (g2 - 1) p2 q2 else loG a b out i2 j2 g2 p2 q2) _ _
    split
    · exact wpS_mono (wpS_loG hk ha hb hs2 P3 hi3 hj3 hm3) fun r st' z => by cases r <;> exact z
    · exact wpS_mono (wpS_loG hk ha hb hs2 P3 hi3 hj3 hm3) fun r st' z => by cases r <;> exact z
  · rintro c st2 ⟨hs2, out, i2, j2, g2, p2, q2, rfl, P3⟩
    exact ⟨hs2, .inr ⟨_, _, _, _, _, _, rfl, P3⟩⟩
  rintro c st2 ⟨hs2, ⟨r, z, rfl, hr⟩ | ⟨out, i2, j2, g2, p2, q2, rfl, P3⟩⟩
  · exact wpS_pure (h1 _ _ _ hs2 hr)
  exact wpS_bind (wpS_setG hs2 fun st3 hs3 => wpS_pure (h2 _ _ _ _ _ hs3 P3))
theorem wpS_mergeLo {a b : Array Keyed} {Q : Array Keyed → SortSt → Prop} (hk : kindOf st = oneType') (ha : IntA a) (hb : IntA b) (ha1 : 1 ≤ a.size) (hb1 : 1 ≤ b.size) (h : ∀ out st', Sm st st' → out.Perm (a ++ b) → Q out st') : wpS (model prog w) A E s (mergeLo' a b) Q st := by
  rw [mergeLo'_eq]
  refine wpS_bind (wpS_lift (wpAny_rule ⟨rfl, ?_⟩))
  refine wpS_bind (wpS_elem hb1 fun p hp => ?_)
  have P0 : PP a b #[p] 0 1 := PP.pushB (out := #[]) (by unfold PP; simp) hp
  by_cases q1 : 1 = b.size
  · rw [if_pos (by simpa using q1)]
    exact wpS_pure (h _ _ .refl (P0.done (by lia) (by lia)))
  rw [if_neg (by simpa using q1)]
  by_cases q2 : 0 + 1 = a.size
  · rw [if_pos (by simpa using q2)]
    exact wpS_pure (h _ _ .refl (P0.lastA (by lia) (by lia)))
  rw [if_neg (by simpa using q2)]
  refine wpS_bind (wpS_get ?_)
  refine wpS_bind (wpS_mono (wpS_forRange (a := 0)
    (I := fun x c st' => Sm st st' ∧ ∃ out i j g, c = (none, out, i, j, g) ∧ LoP a b (x + 1) out i j)
    (Q := fun c st' => Sm st st' ∧ ∃ r z, c = (some r, z) ∧ r.Perm (a ++ b)) ?step ?fin ⟨.refl, _, _, _, _, rfl, P0, by lia, by lia, Nat.le_refl _⟩) ?post)
  case fin =>
    rintro c st' ⟨_, out, i, j, g, rfl, _, h1, h2, h3⟩
    lia
  case post =>
    rintro c st' ⟨hs, r, z, rfl, hr⟩
    exact wpS_pure (h r st' hs hr)
  rintro x c st1 _ hx ⟨hs1, out, i, j, g, rfl, P1⟩
  exact wpS_loC hk ha hb hs1 P1 (fun st2 r z hs hr => ⟨hs, r, z, rfl, hr⟩) fun st2 out i j g hs P => ⟨hs, _, _, _, _, rfl, P⟩
end
end Mine
end
section
open PySem PyProof.Rows
set_option maxRecDepth 100000
namespace Mine
set_option linter.unusedVariables false
noncomputable def mergeHi' : Array Keyed → Array Keyed → StateT SortSt Sem (Array Keyed) := sortPriv% PySem.Builtin.mergeHi
noncomputable abbrev HiSt := Option (Array Keyed) × Nat × Nat × Array Keyed × Nat × Nat × Nat
noncomputable abbrev HiS1 := Option (Array Keyed) × Nat × Nat × Array Keyed × Nat × Nat
noncomputable abbrev HiS0 := Option (Array Keyed) × Nat × Nat × Array Keyed × Nat
noncomputable def hiK (a b out : Array Keyed) (ia ib g k k2 : Nat) : StateT SortSt Sem (ForInStep HiSt) := do
  let x ← elem' a (ia - 1)
  if ia - 1 == 0 then pure (.done (some (a.extract 0 (ia - 1) ++ b.extract 0 ib ++ (out.push x).reverse), ia - 1, ib, out.push x, g, k, k2))
  else if (decide (k < 7) && decide (k2 < 7)) then pure (.done (none, ia - 1, ib, out.push x, g, k, k2))
  else pure (.yield (none, ia - 1, ib, out.push x, g, k, k2))
noncomputable def hiH (a b out : Array Keyed) (ia ib g k bc : Nat) : StateT SortSt Sem (ForInStep HiSt) := do
  let x ← elem' b (ib - 1)
  if ib - 1 == 1 then pure (.done (some (b.extract 0 (ib - 1) ++ a.extract 0 ia ++ (out.push x).reverse), ia, ib - 1, out.push x, g, k, bc))
  else do
    let y ← elem' a (ia - 1)
    let r ← gallop' true y b 0 (ib - 1) (ib - 1 - 1)
    match r with
    | some t =>
      if ib - 1 - t > 0 then
        if t == 1 then pure (.done (some (b.extract 0 t ++ a.extract 0 ia ++ (out.push x ++ (b.extract t (ib - 1)).reverse).reverse), ia, t, out.push x ++ (b.extract t (ib - 1)).reverse, g, k, ib - 1 - t))
        else if t == 0 then pure (.done (some (a.extract 0 ia ++ b.extract 0 t ++ (out.push x ++ (b.extract t (ib - 1)).reverse).reverse), ia, t, out.push x ++ (b.extract t (ib - 1)).reverse, g, k, ib - 1 - t))
        else hiK a b (out.push x ++ (b.extract t (ib - 1)).reverse) ia t g k (ib - 1 - t)
      else hiK a b (out.push x) ia (ib - 1) g k (ib - 1 - t)
    | _ => pure (.done (some (a.extract 0 ia ++ b.extract 0 (ib - 1) ++ (out.push x).reverse), ia, ib - 1, out.push x, g, k, bc))
noncomputable def hiG (a b out : Array Keyed) (ia ib g ac bc : Nat) : StateT SortSt Sem (ForInStep HiSt) := do
  setMinGallop' g
  let x ← elem' b (ib - 1)
  let r ← gallop' false x a 0 ia (ia - 1)
  match r with
  | some t =>
    if ia - t > 0 then
      if t == 0 then pure (.done (some (a.extract 0 t ++ b.extract 0 ib ++ (out ++ (a.extract t ia).reverse).reverse), t, ib, out ++ (a.extract t ia).reverse, g, ia - t, bc))
      else hiH a b (out ++ (a.extract t ia).reverse) t ib g (ia - t) bc
    else hiH a b out ia ib g (ia - t) bc
  | _ => pure (.done (some (a.extract 0 ia ++ b.extract 0 ib ++ out.reverse), ia, ib, out, g, ac, bc))
noncomputable def hiA (a b : Array Keyed) (mg : Nat) (c : HiS1) : StateT SortSt Sem (ForInStep HiS1) := do
  let y ← elem' b (c.2.2.1 - 1)
  let x ← elem' a (c.2.1 - 1)
  let r ← lt' y x
  match r with
  | some aw =>
    if aw then do
      let x ← elem' a (c.2.1 - 1)
      if c.2.1 - 1 == 0 then pure (.done (some (a.extract 0 (c.2.1 - 1) ++ b.extract 0 c.2.2.1 ++ (c.2.2.2.1.push x).reverse), c.2.1 - 1, c.2.2.1, c.2.2.2.1.push x, c.2.2.2.2.1 + 1, 0))
      else if c.2.2.2.2.1 + 1 ≥ mg then pure (.done (none, c.2.1 - 1, c.2.2.1, c.2.2.2.1.push x, c.2.2.2.2.1 + 1, 0))
      else pure (.yield (none, c.2.1 - 1, c.2.2.1, c.2.2.2.1.push x, c.2.2.2.2.1 + 1, 0))
    else do
      let y ← elem' b (c.2.2.1 - 1)
      if c.2.2.1 - 1 == 1 then pure (.done (some (b.extract 0 (c.2.2.1 - 1) ++ a.extract 0 c.2.1 ++ (c.2.2.2.1.push y).reverse), c.2.1, c.2.2.1 - 1, c.2.2.2.1.push y, 0, c.2.2.2.2.2 + 1))
      else if c.2.2.2.2.2 + 1 ≥ mg then pure (.done (none, c.2.1, c.2.2.1 - 1, c.2.2.2.1.push y, 0, c.2.2.2.2.2 + 1))
      else pure (.yield (none, c.2.1, c.2.2.1 - 1, c.2.2.2.1.push y, 0, c.2.2.2.2.2 + 1))
  | _ => pure (.done (some (a.extract 0 c.2.1 ++ b.extract 0 c.2.2.1 ++ c.2.2.2.1.reverse), c.2.1, c.2.2.1, c.2.2.2.1, c.2.2.2.2.1, c.2.2.2.2.2))
noncomputable def hiB (a b : Array Keyed) (c : HiSt) : StateT SortSt Sem (ForInStep HiSt) :=
  if c.2.2.2.2.1 > 1 then hiG a b c.2.2.2.1 c.2.1 c.2.2.1 (c.2.2.2.2.1 - 1) c.2.2.2.2.2.1 c.2.2.2.2.2.2 else hiG a b c.2.2.2.1 c.2.1 c.2.2.1 c.2.2.2.2.1 c.2.2.2.2.2.1 c.2.2.2.2.2.2
noncomputable def hiC (a b : Array Keyed) (c : HiS0) : StateT SortSt Sem (ForInStep HiS0) := do
  let r ← forIn [0:a.size + b.size] ((none, c.2.1, c.2.2.1, c.2.2.2.1, 0, 0) : HiS1) fun _ d => hiA a b c.2.2.2.2 d
  Break.runK.match_1 (motive := fun _ => StateT SortSt Sem (ForInStep HiS0)) r.1 (fun v => pure (.done (some v, r.2.1, r.2.2.1, r.2.2.2.1, c.2.2.2.2))) fun _ => do
    liftM (rule "list.sort.gallop")
    let r2 ← forIn [0:a.size + b.size] ((none, r.2.1, r.2.2.1, r.2.2.2.1, c.2.2.2.2 + 1, r.2.2.2.2.1, r.2.2.2.2.2) : HiSt) fun _ d => hiB a b d
    Break.runK.match_1 (motive := fun _ => StateT SortSt Sem (ForInStep HiS0)) r2.1 (fun v => pure (.done (some v, r2.2.1, r2.2.2.1, r2.2.2.2.1, r2.2.2.2.2.1))) fun _ => do
      setMinGallop' (r2.2.2.2.2.1 + 1)
      pure (.yield (none, r2.2.1, r2.2.2.1, r2.2.2.2.1, r2.2.2.2.2.1 + 1))
theorem mergeHi'_eq (a b : Array Keyed) : mergeHi' a b = (do
  liftM (rule "list.sort.merge-hi")
  let x ← elem' a (a.size - 1)
  if a.size - 1 == 0 then pure (a.extract 0 (a.size - 1) ++ b.extract 0 b.size ++ #[x].reverse)
  else if b.size == 1 then pure (b.extract 0 b.size ++ a.extract 0 (a.size - 1) ++ #[x].reverse)
  else do
    let st ← get
    let r ← forIn [0:a.size + b.size] ((none, a.size - 1, b.size, #[x], gallopOf st) : HiS0) fun _ d => hiC a b d
    Break.runK.match_1 (motive := fun _ => StateT SortSt Sem (Array Keyed)) r.1 (fun v => pure v) fun _ => liftM (unsupported "internal:list.sort.merge-bound" : Sem (Array Keyed))) := rfl
noncomputable def PH (a b out : Array Keyed) (i j : Nat) : Prop := out.toList.Perm (a.toList.drop i ++ b.toList.drop j)
section
variable {a b out : Array Keyed} {i j : Nat}
theorem drop_pred {α : Type} {l : List α} {i : Nat} {p : α} (hi : 1 ≤ i) (hp : l[i - 1]? = some p) : l.drop (i - 1) = p :: l.drop i := by
  obtain ⟨h1, h2⟩ := List.getElem?_eq_some_iff.mp hp
  rw [List.drop_eq_getElem_cons h1, h2, Nat.sub_add_cancel hi]
theorem PH.pushB {p : Keyed} (h : PH a b out i j) (hj : 1 ≤ j) (hp : b[j - 1]? = some p) : PH a b (out.push p) i (j - 1) := by
  unfold PH at h ⊢
  rw [Array.toList_push, drop_pred hj (by rw [Array.getElem?_toList]; exact hp)]
  refine (h.append_right [p]).trans ?_
  rw [List.append_assoc]
  exact (List.perm_append_singleton ..).append_left _
theorem PH.pushA {p : Keyed} (h : PH a b out i j) (hi : 1 ≤ i) (hp : a[i - 1]? = some p) : PH a b (out.push p) (i - 1) j := by
  unfold PH at h ⊢
  rw [Array.toList_push, drop_pred hi (by rw [Array.getElem?_toList]; exact hp)]
  refine (h.append_right [p]).trans ?_
  exact List.perm_append_singleton ..
theorem drop_ext {α : Type} {l : List α} {i k : Nat} (h : k ≤ i) : l.drop k = (l.drop k).take (i - k) ++ l.drop i := by
  conv => lhs; rw [← List.take_append_drop (i - k) (l.drop k)]
  rw [List.drop_drop, Nat.add_sub_cancel' h]
theorem PH.extA {k : Nat} (h : PH a b out i j) (hk : k ≤ i) : PH a b (out ++ (a.extract k i).reverse) k j := by
  unfold PH at h ⊢
  rw [Array.toList_append, Array.toList_reverse, Array.toList_extract, List.extract_eq_take_drop]
  have e := drop_ext (l := a.toList) hk
  generalize List.take _ (a.toList.drop k) = m at e ⊢
  rw [e]
  refine (h.append (List.reverse_perm _)).trans ?_
  rw [List.append_assoc]
  exact (List.perm_append_comm.append_left _).trans (by rw [← List.append_assoc]; exact List.perm_append_comm.append_right _)
theorem PH.extB {k : Nat} (h : PH a b out i j) (hk : k ≤ j) : PH a b (out ++ (b.extract k j).reverse) i k := by
  unfold PH at h ⊢
  rw [Array.toList_append, Array.toList_reverse, Array.toList_extract, List.extract_eq_take_drop]
  have e := drop_ext (l := b.toList) hk
  generalize List.take _ (b.toList.drop k) = m at e ⊢
  rw [e]
  refine (h.append (List.reverse_perm _)).trans ?_
  rw [List.append_assoc]
  exact List.perm_append_comm.append_left _
theorem PH.all (h : PH a b out 0 0) : out.reverse.Perm (a ++ b) := by
  unfold PH at h
  rw [Array.perm_iff_toList_perm, Array.toList_append, Array.toList_reverse]
  exact (List.reverse_perm _).trans h
theorem PH.done (h : PH a b out i j) (hi : i ≤ a.size) (hj : j ≤ b.size) : (a.extract 0 i ++ b.extract 0 j ++ out.reverse).Perm (a ++ b) := by
  have h2 := ((h.extA (Nat.zero_le i)).extB (Nat.zero_le j)).all
  refine Array.Perm.trans ?_ h2
  rw [Array.perm_iff_toList_perm] at *
  simp only [Array.toList_append, Array.toList_reverse, Array.toList_extract, List.reverse_append, List.reverse_reverse, List.append_assoc]
  rw [← List.append_assoc, ← List.append_assoc]
  exact List.perm_append_comm.append_right _
theorem PH.firstB (h : PH a b out i j) (hi : i ≤ a.size) (hj : j ≤ b.size) : (b.extract 0 j ++ a.extract 0 i ++ out.reverse).Perm (a ++ b) := by
  refine Array.Perm.trans ?_ (h.done hi hj)
  rw [Array.perm_iff_toList_perm]
  simp only [Array.toList_append]
  exact List.perm_append_comm.append_right _
end
section
variable {prog : Program} {w : World} {A : Around} {E : Value → Shared → Prop} {s : Shared} {a₀ : Array Keyed} {pd : Array (Nat × Nat × Nat)} {st : SortSt}
noncomputable def HiP (a b : Array Keyed) (n : Nat) (out : Array Keyed) (i j : Nat) : Prop := PH a b out i j ∧ (1 ≤ i ∧ i ≤ a.size) ∧ (2 ≤ j ∧ j ≤ b.size) ∧ i + j + n ≤ a.size + b.size
noncomputable def HiQ (a b : Array Keyed) (st : SortSt) (n : Nat) (r : ForInStep HiSt) (st' : SortSt) : Prop := Sm st st' ∧ match r with
  | .done c => (∃ r z, c = (some r, z) ∧ r.Perm (a ++ b)) ∨ ∃ i j out g p q, c = (none, i, j, out, g, p, q) ∧ HiP a b n out i j
  | .yield c => ∃ i j out g p q, c = (none, i, j, out, g, p, q) ∧ HiP a b n out i j
theorem wpS_hiK {a b out : Array Keyed} {st' : SortSt} {i j g k k2 n : Nat} (hs : Sm st st') (P : HiP a b n out i j) : wpS (model prog w) A E s (hiK a b out i j g k k2) (HiQ a b st n) st' := by
  obtain ⟨P, hi, hj, hm⟩ := P
  refine wpS_bind (wpS_elem (by lia) fun x hx => ?_)
  have P7 := P.pushA hi.1 hx
  by_cases q5 : i - 1 = 0
  · rw [if_pos (by simpa using q5)]
    exact wpS_pure ⟨hs, .inl ⟨_, _, rfl, P7.done (by lia) hj.2⟩⟩
  rw [if_neg (by simpa using q5)]
  have P8 : HiP a b n (out.push x) (i - 1) j := ⟨P7, by lia, hj, by lia⟩
  split
  · exact wpS_pure ⟨hs, .inr ⟨_, _, _, _, _, _, rfl, P8⟩⟩
  · exact wpS_pure ⟨hs, _, _, _, _, _, _, rfl, P8⟩
theorem wpS_hiH {a b out : Array Keyed} {st' : SortSt} {i j g k bc n : Nat} (hk : kindOf st = oneType') (ha : IntA a) (hb : IntA b) (hs : Sm st st') (P : HiP a b n out i j) : wpS (model prog w) A E s (hiH a b out i j g k bc) (HiQ a b st n) st' := by
  obtain ⟨P, hi, hj, hm⟩ := P
  refine wpS_bind (wpS_elem (by lia) fun x hx => ?_)
  have P5 := P.pushB (by lia) hx
  by_cases q3 : j - 1 = 1
  · rw [if_pos (by simpa using q3)]
    exact wpS_pure ⟨hs, .inl ⟨_, _, rfl, P5.firstB hi.2 (by lia)⟩⟩
  rw [if_neg (by simpa using q3)]
  refine wpS_bind (wpS_elem (by lia) fun y hy => ?_)
  refine wpS_bind (wpS_gallop (hs.2.1.trans hk) (ha _ (Array.mem_toList_iff.mpr (Array.mem_of_getElem? hy))) hb (by lia) (by lia) fun k2 hk2 => ?_)
  by_cases k20 : j - 1 - k2 > 0
  · show wpS _ _ _ _ (if j - 1 - k2 > 0 then _ else _) _ _
    rw [if_pos k20]
    have P6 := P5.extB (k := k2) (by lia)
    by_cases q4 : k2 = 1
    · rw [if_pos (by simpa using q4)]
      exact wpS_pure ⟨hs, .inl ⟨_, _, rfl, P6.firstB hi.2 (by lia)⟩⟩
    rw [if_neg (by simpa using q4)]
    by_cases q6 : k2 = 0
    · rw [if_pos (by simpa using q6)]
      exact wpS_pure ⟨hs, .inl ⟨_, _, rfl, P6.done hi.2 (by lia)⟩⟩
    rw [if_neg (by simpa using q6)]
    exact wpS_hiK hs ⟨P6, hi, by lia, by lia⟩
  · show wpS _ _ _ _ (if j - 1 - k2 > 0 then _ else _) _ _
    rw [if_neg k20]
    exact wpS_hiK hs ⟨P5, hi, by lia, by lia⟩
theorem wpS_hiG {a b out : Array Keyed} {st' : SortSt} {i j g ac bc n : Nat} (hk : kindOf st = oneType') (ha : IntA a) (hb : IntA b) (hs : Sm st st') (P : HiP a b n out i j) : wpS (model prog w) A E s (hiG a b out i j g ac bc) (HiQ a b st n) st' := by
  have P' := P
  obtain ⟨P, hi, hj, hm⟩ := P
  refine wpS_bind (wpS_setG hs fun st3 hs3 => ?_)
  refine wpS_bind (wpS_elem (by lia) fun x hx => ?_)
  refine wpS_bind (wpS_gallop (hs3.2.1.trans hk) (hb _ (Array.mem_toList_iff.mpr (Array.mem_of_getElem? hx))) ha (by lia) (by lia) fun k hk1 => ?_)
  by_cases k0 : i - k > 0
  · show wpS _ _ _ _ (if i - k > 0 then _ else _) _ _
    rw [if_pos k0]
    have P4 := P.extA (k := k) (by lia)
    by_cases q1 : k = 0
    · rw [if_pos (by simpa using q1)]
      exact wpS_pure ⟨hs3, .inl ⟨_, _, rfl, P4.done (by lia) hj.2⟩⟩
    rw [if_neg (by simpa using q1)]
    exact wpS_hiH hk ha hb hs3 ⟨P4, by lia, hj, by lia⟩
  · show wpS _ _ _ _ (if i - k > 0 then _ else _) _ _
    rw [if_neg k0]
    exact wpS_hiH hk ha hb hs3 P'
theorem wpS_hiA {a b : Array Keyed} {st : SortSt} {mg n p q i j : Nat} {out : Array Keyed} {Q : ForInStep HiS1 → SortSt → Prop} (hk : kindOf st = oneType') (ha : IntA a) (hb : IntA b) (P : HiP a b n out i j)
    (h1 : ∀ r z, r.Perm (a ++ b) → Q (.done (some r, z)) st) (h2 : ∀ i j out p q, HiP a b (n + 1) out i j → Q (.done (none, i, j, out, p, q)) st ∧ Q (.yield (none, i, j, out, p, q)) st) : wpS (model prog w) A E s (hiA a b mg (none, i, j, out, p, q)) Q st := by
  obtain ⟨P2, hi2, hj2, hm2⟩ := P
  have hi1 : i - 1 < a.size := by lia
  have hj1 : j - 1 < b.size := by lia
  refine wpS_bind (wpS_elem hj1 fun eb heb => wpS_bind (wpS_elem hi1 fun ea hea => wpS_bind (wpS_ltI hk (hb _ (Array.mem_toList_iff.mpr (Array.mem_of_getElem? heb))) (ha _ (Array.mem_toList_iff.mpr (Array.mem_of_getElem? hea))) fun bw => ?_)))
  cases bw with
  | true =>
    refine wpS_bind (wpS_elem hi1 fun ea hea => ?_)
    have P3 := P2.pushA hi2.1 hea
    split
    · exact wpS_pure (h1 _ _ (P3.done (Nat.le_of_lt hi1) hj2.2))
    · rename_i q3
      have q3 : i - 1 ≠ 0 := by simpa using q3
      have z := h2 (i - 1) j (out.push ea) (p + 1) 0 ⟨P3, by lia, hj2, by lia⟩
      split
      · exact wpS_pure z.1
      · exact wpS_pure z.2
  | false =>
    refine wpS_bind (wpS_elem hj1 fun eb heb => ?_)
    have P3 := P2.pushB (by lia) heb
    split
    · exact wpS_pure (h1 _ _ (P3.firstB hi2.2 (Nat.le_of_lt hj1)))
    · rename_i q3
      have q3 : j - 1 ≠ 1 := by simpa using q3
      have z := h2 i (j - 1) (out.push eb) 0 (q + 1) ⟨P3, hi2, by lia, by lia⟩
      split
      · exact wpS_pure z.1
      · exact wpS_pure z.2
theorem wpS_hiC {a b : Array Keyed} {st st1 : SortSt} {n g i j : Nat} {out : Array Keyed} {Q : ForInStep HiS0 → SortSt → Prop} (hk : kindOf st = oneType') (ha : IntA a) (hb : IntA b) (hs : Sm st st1) (P : HiP a b n out i j)
    (h1 : ∀ st2 r z, Sm st st2 → r.Perm (a ++ b) → Q (.done (some r, z)) st2) (h2 : ∀ st2 i j out g, Sm st st2 → HiP a b (n + 1) out i j → Q (.yield (none, i, j, out, g)) st2) : wpS (model prog w) A E s (hiC a b (none, i, j, out, g)) Q st1 := by
  have hz : 1 ≤ a.size + b.size := by have := P.2.1; lia
  refine wpS_bind (wpS_mono (wpS_forRange (a := 0)
    (I := fun y c st' => st' = st1 ∧ ∃ i j out p q, c = (none, i, j, out, p, q) ∧ HiP a b (n + min y 1) out i j)
    (Q := fun c st' => st' = st1 ∧ ((∃ r z, c = (some r, z) ∧ r.Perm (a ++ b)) ∨ ∃ i j out p q, c = (none, i, j, out, p, q) ∧ HiP a b (n + 1) out i j)) ?_ ?_ ⟨rfl, _, _, _, _, _, rfl, P⟩) ?_)
  · rintro y c st' _ _ ⟨rfl, i', j', out, p, q, rfl, P2⟩
    refine wpS_hiA (hs.2.1.trans hk) ha hb P2 (fun r z hr => ⟨rfl, .inl ⟨r, z, rfl, hr⟩⟩) fun i j out p q P3 => ?_
    have P4 : HiP a b (n + 1) out i j := ⟨P3.1, P3.2.1, P3.2.2.1, by have := P3.2.2.2; lia⟩
    exact ⟨⟨rfl, .inr ⟨_, _, _, _, _, rfl, P4⟩⟩, rfl, _, _, _, _, _, rfl, by rw [Nat.min_eq_right (Nat.le_add_left 1 y)]; exact P4⟩
  · rintro c st' ⟨rfl, i', j', out, p, q, rfl, P2⟩
    exact ⟨rfl, .inr ⟨_, _, _, _, _, rfl, by rwa [show min (max 0 (a.size + b.size)) 1 = 1 by lia] at P2⟩⟩
  rintro c st' ⟨rfl, ⟨r, z, rfl, hr⟩ | ⟨i', j', out, p, q, rfl, P2⟩⟩
  · exact wpS_pure (h1 _ _ _ hs hr)
  refine wpS_bind (wpS_lift (wpAny_rule ⟨rfl, ?_⟩))
  refine wpS_bind (wpS_mono (wpS_forRange (a := 0)
    (I := fun y c st' => HiQ a b st (n + 1) (.yield c) st') (Q := fun c st' => HiQ a b st (n + 1) (.done c) st') ?_ ?_ ⟨hs, _, _, _, _, _, _, rfl, P2⟩) ?_)
  · rintro y c st2 _ _ ⟨hs2, i2, j2, out, g2, p2, q2, rfl, P3⟩
    show wpS _ _ _ _ (if g2 > 1 then hiG a b out i2 j2 (g2 - 1) p2 q2 else hiG a b out i2 j2 g2 p2 q2) _ _
    split
    · exact wpS_mono (wpS_hiG hk ha hb hs2 P3) fun r st' z => by cases r <;> exact z
    · exact wpS_mono (wpS_hiG hk ha hb hs2 P3) fun r st' z => by cases r <;> exact z
  · rintro c st2 ⟨hs2, i2, j2, out, g2, p2, q2, rfl, P3⟩
    exact ⟨hs2, .inr ⟨_, _, _, _, _, _, rfl, P3⟩⟩
  rintro c st2 ⟨hs2, ⟨r, z, rfl, hr⟩ | ⟨i2, j2, out, g2, p2, q2, rfl, P3⟩⟩
  · exact wpS_pure (h1 _ _ _ hs2 hr)
  exact wpS_bind (wpS_setG hs2 fun st3 hs3 => wpS_pure (h2 _ _ _ _ _ hs3 P3))
theorem wpS_mergeHi {a b : Array Keyed} {Q : Array Keyed → SortSt → Prop} (hk : kindOf st = oneType') (ha : IntA a) (hb : IntA b) (ha1 : 1 ≤ a.size) (hb1 : 1 ≤ b.size) (h : ∀ out st', Sm st st' → out.Perm (a ++ b) → Q out st') : wpS (model prog w) A E s (mergeHi' a b) Q st := by
  rw [mergeHi'_eq]
  refine wpS_bind (wpS_lift (wpAny_rule ⟨rfl, ?_⟩))
  refine wpS_bind (wpS_elem (by lia) fun p hp => ?_)
  have P0 : PH a b #[p] (a.size - 1) b.size := PH.pushA (out := #[]) (i := a.size) (j := b.size) (by unfold PH; rw [← Array.length_toList, ← Array.length_toList, List.drop_length, List.drop_length]; exact .refl _) ha1 hp
  by_cases q1 : a.size - 1 = 0
  · rw [if_pos (by simpa using q1)]
    exact wpS_pure (h _ _ .refl (P0.done (by lia) (by lia)))
  rw [if_neg (by simpa using q1)]
  by_cases q2 : b.size = 1
  · rw [if_pos (by simpa using q2)]
    exact wpS_pure (h _ _ .refl (P0.firstB (by lia) (by lia)))
  rw [if_neg (by simpa using q2)]
  refine wpS_bind (wpS_get ?_)
  refine wpS_bind (wpS_mono (wpS_forRange (a := 0)
    (I := fun x c st' => Sm st st' ∧ ∃ i j out g, c = (none, i, j, out, g) ∧ HiP a b (x + 1) out i j)
    (Q := fun c st' => Sm st st' ∧ ∃ r z, c = (some r, z) ∧ r.Perm (a ++ b)) ?step ?fin ⟨.refl, _, _, _, _, rfl, P0, by lia, by lia, by lia⟩) ?post)
  case fin =>
    rintro c st' ⟨_, i, j, out, g, rfl, _, h1, h2, h3⟩
    lia
  case post =>
    rintro c st' ⟨hs, r, z, rfl, hr⟩
    exact wpS_pure (h r st' hs hr)
  rintro x c st1 _ hx ⟨hs1, i, j, out, g, rfl, P1⟩
  exact wpS_hiC hk ha hb hs1 P1 (fun st2 r z hs hr => ⟨hs, r, z, rfl, hr⟩) fun st2 i j out g hs P => ⟨hs, _, _, _, _, rfl, P⟩
end
end Mine
end
section
open PySem PyProof.Rows
set_option maxRecDepth 100000
namespace Mine
set_option linter.unusedVariables false
theorem mergeAt'_eq (i : Nat) : mergeAt' i = (do
  let s ← get
  let (some (sa, na, power), some (sb, nb, _)) := ((pendingOf s)[i]?, (pendingOf s)[i + 1]?) | unsupported "internal:list.sort.pending"
  set (setPending s (((pendingOf s).setIfInBounds i (sa, na + nb, power)).eraseIdxIfInBounds (i + 1)))
  let some k ← gallop' false (← elem' (arrOf s) sb) (arrOf s) sa na 0 | return false
  let (sa, na) := (sa + k, na - k)
  if na == 0 then return true
  let some nb ← gallop' true (← elem' (arrOf s) (sa + na - 1)) (arrOf s) sb nb (nb - 1) | return false
  if nb == 0 then return true
  let x := (arrOf s).extract sa sb
  let y := (arrOf s).extract sb (sb + nb)
  let merged ← if na ≤ nb then mergeLo' x y else mergeHi' x y
  modify fun s => setArr s (merged.toList.zipIdx.foldl (fun a (p, j) => a.setIfInBounds (sa + j) p) (arrOf s))
  return (failedOf (← get)).isNone) := rfl
noncomputable def Ch : List (Nat × Nat × Nat) → Nat → Nat → Prop
  | [], a, b => a = b
  | (s, n, _) :: r, a, b => s = a ∧ 1 ≤ n ∧ Ch r (a + n) b
theorem Ch.le : ∀ {l : List (Nat × Nat × Nat)} {a b : Nat}, Ch l a b → a ≤ b
  | [], _, _, h => Nat.le_of_eq h
  | (s, n, _) :: r, a, b, h => by have := h.2.2.le; lia
theorem Ch.snoc {s n q : Nat} : ∀ {l : List (Nat × Nat × Nat)} {a b : Nat}, Ch l a b → s = b → 1 ≤ n → Ch (l ++ [(s, n, q)]) a (b + n)
  | [], _, _, h, e, hn => ⟨e.trans h.symm, hn, by rw [show _ = _ from h]; exact rfl⟩
  | (s', n', _) :: r, a, b, h, e, hn => ⟨h.1, h.2.1, h.2.2.snoc e hn⟩
theorem Ch.merge {sa na pa sb nb pb : Nat} : ∀ {l : List (Nat × Nat × Nat)} {i a b : Nat}, Ch l a b → l[i]? = some (sa, na, pa) → l[i + 1]? = some (sb, nb, pb) →
    sb = sa + na ∧ 1 ≤ na ∧ 1 ≤ nb ∧ sb + nb ≤ b ∧ Ch ((l.set i (sa, na + nb, pa)).eraseIdx (i + 1)) a b
  | (s, n, q) :: (s', n', q') :: r, 0, a, b, h, e1, e2 => by
    cases e1; cases e2
    obtain ⟨h1, h2, h3, h4, h5⟩ := h
    have := h5.le
    refine ⟨by lia, h2, h4, by lia, h1, by lia, ?_⟩
    have e : a + (na + nb) = a + na + nb := by lia
    show Ch r (a + (na + nb)) b
    rw [e]; exact h5
  | (s, n, q) :: r, i + 1, a, b, h, e1, e2 => by
    obtain ⟨h1, h2, h3⟩ := h
    obtain ⟨k1, k2, k3, k4, k5⟩ := h3.merge (i := i) (by simpa using e1) (by simpa using e2)
    exact ⟨k1, k2, k3, k4, h1, h2, k5⟩
  | [x], 0, _, _, _, _, e2 => by simp at e2
  | [], i, _, _, _, e1, _ => by simp at e1
theorem Ch.mod {f : Nat × Nat × Nat → Nat × Nat × Nat} (hf : ∀ s n q, (f (s, n, q)).1 = s ∧ (f (s, n, q)).2.1 = n) : ∀ {l : List (Nat × Nat × Nat)} {i a b : Nat}, Ch l a b → Ch (l.modify i f) a b
  | [], i, a, b, h => by simpa using h
  | (s, n, q) :: r, 0, a, b, h => by
    obtain ⟨e1, e2⟩ := hf s n q
    show Ch (f (s, n, q) :: r) a b
    generalize f (s, n, q) = z at e1 e2 ⊢
    obtain ⟨z1, z2, z3⟩ := z
    cases e1; cases e2
    exact h
  | (s, n, q) :: r, i + 1, a, b, h => by rw [List.modify_succ_cons]; exact ⟨h.1, h.2.1, h.2.2.mod hf⟩
theorem over_toList {α : Type} {sa : Nat} : ∀ {ms : List α} {k : Nat} {xs : Array α}, sa + k + ms.length ≤ xs.size →
    ((ms.zipIdx k).foldl (fun a (x : α × Nat) => a.setIfInBounds (sa + x.2) x.1) xs).toList = xs.toList.take (sa + k) ++ ms ++ xs.toList.drop (sa + k + ms.length)
  | [], k, xs, h => by simp
  | m :: ms, k, xs, h => by
    rw [List.length_cons] at h
    rw [List.zipIdx_cons, List.foldl_cons, over_toList (by rw [Array.size_setIfInBounds]; lia), Array.toList_setIfInBounds, List.length_cons]
    have hl : sa + k < xs.toList.length := by rw [Array.length_toList]; lia
    have e1 : (xs.toList.set (sa + k) m).take (sa + (k + 1)) = xs.toList.take (sa + k) ++ [m] := by
      rw [show sa + (k + 1) = sa + k + 1 by lia, List.take_add_one, List.getElem?_set_self hl, List.take_set_of_le (Nat.le_refl _)]; rfl
    have e2 : (xs.toList.set (sa + k) m).drop (sa + (k + 1) + ms.length) = xs.toList.drop (sa + k + (ms.length + 1)) := by
      rw [List.drop_set_of_lt (by lia), show sa + (k + 1) + ms.length = sa + k + (ms.length + 1) by lia]
    rw [e1, e2]
    simp
theorem over_perm {sa n : Nat} {ms xs : Array Keyed} (hp : ms.toList.Perm ((xs.toList.drop sa).take n)) (hn : sa + n ≤ xs.size) : (ms.toList.zipIdx.foldl (fun a (p, j) => a.setIfInBounds (sa + j) p) xs).Perm xs := by
  have hl : ms.toList.length = n := by rw [hp.length_eq, List.length_take, List.length_drop, Array.length_toList]; lia
  rw [Array.perm_iff_toList_perm]
  have := over_toList (sa := sa) (ms := ms.toList) (k := 0) (xs := xs) (by lia)
  rw [show (ms.toList.zipIdx.foldl (fun a (p, j) => a.setIfInBounds (sa + j) p) xs) = ((ms.toList.zipIdx 0).foldl (fun a (x : Keyed × Nat) => a.setIfInBounds (sa + x.2) x.1) xs) from rfl, this, hl, Nat.add_zero]
  refine ((hp.append_left _).append_right _).trans ?_
  rw [List.append_assoc, ← List.drop_drop, List.take_append_drop, List.take_append_drop]
section
variable {prog : Program} {w : World} {A : Around} {E : Value → Shared → Prop} {s : Shared} {a₀ : Array Keyed} {pd : Array (Nat × Nat × Nat)} {st : SortSt}
theorem wpS_set {f : SortSt} {Q : PUnit → SortSt → Prop} (h : Q ⟨⟩ f) : wpS (model prog w) A E s (set f : StateT SortSt Sem PUnit) Q st := by
  unfold wpS; rw [StateT.run_set]; exact wpAny_pure ⟨rfl, h⟩
theorem IntA.ext {xs : Array Keyed} (h : IntA xs) (i j : Nat) : IntA (xs.extract i j) := fun p hp => h p (by
  rw [Array.toList_extract, List.extract_eq_take_drop] at hp
  exact List.mem_of_mem_drop (List.mem_of_mem_take hp))
theorem SB.sm {st' : SortSt} (h : SB a₀ pd st) (hs : Sm st st') : SB a₀ pd st' := ⟨by rw [hs.1]; exact h.perm, hs.2.1.trans h.kind, hs.2.2.1.trans h.failed, hs.2.2.2.trans h.pend⟩
theorem wpS_mergeAt {i e : Nat} {Q : Bool → SortSt → Prop} (h0 : IntA a₀) (hB : SB a₀ pd st) (hc : Ch pd.toList 0 e) (he : e ≤ a₀.size) (hi : i + 1 < pd.size)
    (h : ∀ pd' st', SB a₀ pd' st' → Ch pd'.toList 0 e → pd'.size + 1 = pd.size → Q true st') : wpS (model prog w) A E s (mergeAt' i) Q st := by
  rw [mergeAt'_eq]
  refine wpS_bind (wpS_get ?_)
  rw [hB.pend]
  obtain ⟨sa, na, pa, e1⟩ : ∃ sa na pa, pd[i]'(by lia) = (sa, na, pa) := ⟨_, _, _, rfl⟩
  obtain ⟨sb, nb, pb, e2⟩ : ∃ sb nb pb, pd[i + 1] = (sb, nb, pb) := ⟨_, _, _, rfl⟩
  have g1 : pd[i]? = some (sa, na, pa) := by rw [getElem?_pos _ i (by lia), e1]
  have g2 : pd[i + 1]? = some (sb, nb, pb) := by rw [getElem?_pos _ (i + 1) hi, e2]
  obtain ⟨k1, k2, k3, k4, k5⟩ := hc.merge (i := i) (by rw [Array.getElem?_toList]; exact g1) (by rw [Array.getElem?_toList]; exact g2)
  have hI := hB.ints h0
  have hsz := hB.size
  generalize hpd : (pd.setIfInBounds i (sa, na + nb, pa)).eraseIdxIfInBounds (i + 1) = pd2
  have hCh : Ch pd2.toList 0 e := by rw [← hpd, Array.toList_eraseIdxIfInBounds, Array.toList_setIfInBounds]; exact k5
  have hs2 : pd2.size + 1 = pd.size := by
    rw [← Array.length_toList, ← hpd, Array.toList_eraseIdxIfInBounds, Array.toList_setIfInBounds, List.length_eraseIdx, List.length_set, if_pos (by rw [Array.length_toList]; exact hi), Array.length_toList]
    lia
  rw [g1, g2]
  dsimp only
  rw [hpd]
  have hB2 : SB a₀ pd2 (setPending st pd2) := ⟨hB.perm, hB.kind, hB.failed, rfl⟩
  refine wpS_bind (wpS_set ?_)
  refine wpS_bind (wpS_elem (by lia) fun p hp => ?_)
  refine wpS_bind (wpS_gallop hB2.kind (hI _ (Array.mem_toList_iff.mpr (Array.mem_of_getElem? hp))) hI (by lia) (by lia) fun g hg => ?_)
  dsimp only
  by_cases q1 : na - g = 0
  · rw [if_pos (by simpa using q1)]
    exact wpS_pure (h _ _ hB2 hCh hs2)
  rw [if_neg (by simpa using q1)]
  refine wpS_bind (wpS_elem (by lia) fun p2 hp2 => ?_)
  refine wpS_bind (wpS_gallop hB2.kind (hI _ (Array.mem_toList_iff.mpr (Array.mem_of_getElem? hp2))) hI (by lia) (by lia) fun g2 hg2 => ?_)
  dsimp only
  by_cases q2 : g2 = 0
  · rw [if_pos (by simpa using q2)]
    exact wpS_pure (h _ _ hB2 hCh hs2)
  rw [if_neg (by simpa using q2)]
  have fin : ∀ (out : Array Keyed) (st' : SortSt), Sm (setPending st pd2) st' → out.Perm ((arrOf st).extract (sa + g) sb ++ (arrOf st).extract sb (sb + g2)) →
      wpS (model prog w) A E s (do
        modify fun s => setArr s (out.toList.zipIdx.foldl (fun a (p, j) => a.setIfInBounds (sa + g + j) p) (arrOf s))
        return (failedOf (← get)).isNone) Q st' := by
    intro out st' hs hp
    have hB3 := hB2.sm hs
    refine wpS_bind (wpS_modify ?_)
    have e0 : arrOf st' = arrOf st := hs.1
    have hpp : (out.toList.zipIdx.foldl (fun a (p, j) => a.setIfInBounds (sa + g + j) p) (arrOf st')).Perm (arrOf st') := by
      refine over_perm (n := na - g + g2) ?_ (by rw [e0]; lia)
      rw [e0]
      refine (Array.perm_iff_toList_perm.mp hp).trans ?_
      rw [Array.toList_append, Array.toList_extract, Array.toList_extract, List.extract_eq_take_drop, List.extract_eq_take_drop, List.take_add, List.drop_drop]
      rw [show sb - (sa + g) = na - g by lia, show sb + g2 - sb = g2 by lia, show sa + g + (na - g) = sb by lia]
    have hB4 := hB3.setArr hpp
    refine wpS_bind (wpS_get (wpS_pure ?_))
    rw [hB4.failed]
    exact h _ _ hB4 hCh hs2
  have z1 : 1 ≤ ((arrOf st).extract (sa + g) sb).size := by rw [Array.size_extract]; lia
  have z2 : 1 ≤ ((arrOf st).extract sb (sb + g2)).size := by rw [Array.size_extract]; lia
  by_cases q3 : na - g ≤ g2
  · rw [if_pos q3]
    exact wpS_bind (wpS_mergeLo hB2.kind (hI.ext _ _) (hI.ext _ _) z1 z2 fun out st' hs hp => fin out st' hs hp)
  · rw [if_neg q3]
    exact wpS_bind (wpS_mergeHi hB2.kind (hI.ext _ _) (hI.ext _ _) z1 z2 fun out st' hs hp => fin out st' hs hp)
end
end Mine
end
section
open PySem PyProof.Rows
set_option maxRecDepth 100000
namespace Mine
set_option linter.unusedVariables false
section
variable {prog : Program} {w : World} {A : Around} {E : Value → Shared → Prop} {s : Shared} {a₀ : Array Keyed} {pd : Array (Nat × Nat × Nat)} {st : SortSt}
theorem ite_pred {c : Prop} [Decidable c] {n : Nat} (h : 1 < n) : (if c then n - 2 - 1 else n - 2) + 1 < n := by split <;> lia
theorem wpS_runs {Q : Unit → SortSt → Prop} (h0 : IntA a₀) (hB : SB a₀ #[] st) (h : ∀ pd st', SB a₀ pd st' → Q () st') : wpS (model prog w) A E s sortRuns' Q st := by
  rw [sortRuns'_eq]
  refine wpS_bind (wpS_get ?_)
  dsimp only
  rw [hB.size]
  refine wpS_bind (wpS_mono (wpS_forRange (a := 0)
    (I := fun x c st' => ∃ e pd, c = (none, e) ∧ SB a₀ pd st' ∧ Ch pd.toList 0 e ∧ e ≤ a₀.size)
    (Q := fun c st' => ∃ e pd, c = (none, e) ∧ SB a₀ pd st' ∧ Ch pd.toList 0 e ∧ e ≤ a₀.size) ?step (fun _ _ z => z) ⟨0, #[], rfl, hB, rfl, Nat.zero_le _⟩) ?post)
  case step =>
    rintro x c st1 _ _ ⟨e, pd1, rfl, hB1, hC1, he1⟩
    dsimp only
    by_cases q : e ≥ a₀.size
    · rw [if_pos q]; exact wpS_pure ⟨e, pd1, rfl, hB1, hC1, he1⟩
    rw [if_neg q]
    refine wpS_bind (wpS_count h0 (by lia) (by lia) hB1 fun m st2 hB2 hm1 hm2 => ?_)
    dsimp only
    by_cases q2 : m < minRun' a₀.size a₀.size 0
    · rw [if_pos q2]
      refine wpS_bind (wpS_lift (wpAny_rule ⟨rfl, ?_⟩))
      refine wpS_bind (wpS_bin h0 (by lia) hB2 fun st3 hB3 => ?_)
      rw [if_neg (by simp)]
      refine wpS_bind (wpS_get ?_)
      rw [hB3.pend]
      cases hbk : pd1.back? with
      | none =>
        refine wpS_bind (wpS_modify (wpS_pure ⟨_, _, rfl, ⟨hB3.perm, hB3.kind, hB3.failed, rfl⟩, ?_, by lia⟩))
        rw [Array.toList_push, hB3.pend]
        exact hC1.snoc rfl (by lia)
      | some t =>
        obtain ⟨s1, n1, q1⟩ := t
        dsimp only
        refine wpS_bind (wpS_mono (wpS_forRange (a := 0) (I := fun _ c st' => c = (none, ()) ∧ ∃ pd, SB a₀ pd st' ∧ Ch pd.toList 0 e) (Q := fun c st' => c = (none, ()) ∧ ∃ pd, SB a₀ pd st' ∧ Ch pd.toList 0 e) ?_ (fun _ _ z => z) ⟨rfl, pd1, hB3, hC1⟩) ?_)
        · rintro x2 c2 st4 _ _ ⟨rfl, pd4, hB4, hC4⟩
          refine wpS_bind (wpS_get ?_)
          rw [hB4.pend]
          by_cases z : pd4.size > 1
          · rw [if_pos z, getElem?_pos _ (pd4.size - 2) (by lia)]
            obtain ⟨u1, u2, u3, e4⟩ : ∃ a b c, pd4[pd4.size - 2]'(by lia) = (a, b, c) := ⟨_, _, _, rfl⟩
            rw [e4]
            dsimp only
            split
            · exact wpS_pure ⟨rfl, pd4, hB4, hC4⟩
            · exact wpS_bind (wpS_mergeAt h0 hB4 hC4 he1 (by lia) fun pd5 st5 hB5 hC5 _ => wpS_pure ⟨rfl, pd5, hB5, hC5⟩)
          · rw [if_neg z]; exact wpS_pure ⟨rfl, pd4, hB4, hC4⟩
        · rintro c2 st4 ⟨rfl, pd4, hB4, hC4⟩
          refine wpS_bind (wpS_modify (wpS_bind (wpS_modify (wpS_pure ⟨_, _, rfl, ⟨hB4.perm, hB4.kind, hB4.failed, rfl⟩, ?_, by lia⟩))))
          rw [Array.toList_push, hB4.pend, Array.toList_modify]
          exact (hC4.mod (fun _ _ _ => ⟨rfl, rfl⟩)).snoc rfl (by lia)
    · rw [if_neg q2]
      refine wpS_bind (wpS_get ?_)
      rw [hB2.pend]
      cases hbk : pd1.back? with
      | none =>
        refine wpS_bind (wpS_modify (wpS_pure ⟨_, _, rfl, ⟨hB2.perm, hB2.kind, hB2.failed, rfl⟩, ?_, by lia⟩))
        rw [Array.toList_push, hB2.pend]
        exact hC1.snoc rfl (by lia)
      | some t =>
        obtain ⟨s1, n1, q1⟩ := t
        dsimp only
        refine wpS_bind (wpS_mono (wpS_forRange (a := 0) (I := fun _ c st' => c = (none, ()) ∧ ∃ pd, SB a₀ pd st' ∧ Ch pd.toList 0 e) (Q := fun c st' => c = (none, ()) ∧ ∃ pd, SB a₀ pd st' ∧ Ch pd.toList 0 e) ?_ (fun _ _ z => z) ⟨rfl, pd1, hB2, hC1⟩) ?_)
        · rintro x2 c2 st4 _ _ ⟨rfl, pd4, hB4, hC4⟩
          refine wpS_bind (wpS_get ?_)
          rw [hB4.pend]
          by_cases z : pd4.size > 1
          · rw [if_pos z, getElem?_pos _ (pd4.size - 2) (by lia)]
            obtain ⟨u1, u2, u3, e4⟩ : ∃ a b c, pd4[pd4.size - 2]'(by lia) = (a, b, c) := ⟨_, _, _, rfl⟩
            rw [e4]
            dsimp only
            split
            · exact wpS_pure ⟨rfl, pd4, hB4, hC4⟩
            · exact wpS_bind (wpS_mergeAt h0 hB4 hC4 he1 (by lia) fun pd5 st5 hB5 hC5 _ => wpS_pure ⟨rfl, pd5, hB5, hC5⟩)
          · rw [if_neg z]; exact wpS_pure ⟨rfl, pd4, hB4, hC4⟩
        · rintro c2 st4 ⟨rfl, pd4, hB4, hC4⟩
          refine wpS_bind (wpS_modify (wpS_bind (wpS_modify (wpS_pure ⟨_, _, rfl, ⟨hB4.perm, hB4.kind, hB4.failed, rfl⟩, ?_, by lia⟩))))
          rw [Array.toList_push, hB4.pend, Array.toList_modify]
          exact (hC4.mod (fun _ _ _ => ⟨rfl, rfl⟩)).snoc rfl (by lia)
  case post =>
    rintro c st' ⟨e, pd1, rfl, hB1, hC1, he1⟩
    dsimp only
    refine wpS_bind (wpS_mono (wpS_forRange (a := 0) (I := fun _ c st'' => c = (none, ()) ∧ ∃ pd, SB a₀ pd st'' ∧ Ch pd.toList 0 e) (Q := fun c st'' => c = (none, ()) ∧ ∃ pd, SB a₀ pd st'' ∧ Ch pd.toList 0 e) ?_ (fun _ _ z => z) ⟨rfl, pd1, hB1, hC1⟩) ?_)
    · rintro x c st2 _ _ ⟨rfl, pd2, hB2, hC2⟩
      refine wpS_bind (wpS_get ?_)
      rw [hB2.pend]
      by_cases q : pd2.size ≤ 1
      · rw [if_pos q]; exact wpS_pure ⟨rfl, pd2, hB2, hC2⟩
      rw [if_neg q]
      refine wpS_bind (wpS_mergeAt h0 hB2 hC2 he1 (ite_pred (by lia)) fun pd3 st3 hB3 hC3 _ => ?_)
      exact wpS_pure ⟨rfl, pd3, hB3, hC3⟩
    · rintro c st2 ⟨rfl, pd2, hB2, hC2⟩
      exact wpS_pure (h pd2 st2 hB2)
theorem sorted_perm {vs : List Value} {ns : List Int} (hI : IntsAre vs ns) {xs : Array Keyed} (hp : xs.Perm (pairsOf vs)) : ∃ ns', IntsAre (xs.map (·.2)).toList ns' ∧ ns'.Perm ns := by
  have hl : xs.toList.Perm (vs.zip vs) := by rw [← pairsOf_toList]; exact Array.perm_iff_toList_perm.mp hp
  have hmem : ∀ p, p ∈ xs.toList → p.1 = p.2 ∧ p.1 ∈ vs := fun p hp' => mem_zip_self (hl.mem_iff.mp hp')
  refine ⟨xs.toList.map (fun p => numOf p.1), ?_, ?_⟩
  · have e : (xs.map (·.2)).toList = xs.toList.map (·.1) := by
      rw [Array.toList_map]; exact List.map_congr_left fun p hp' => (hmem p hp').1.symm
    rw [e]
    have h1 := intsAre_map (xs.toList.map (·.1)) (by
      intro v hv
      obtain ⟨p, hp', rfl⟩ := List.mem_map.mp hv
      exact hI.all _ (hmem p hp').2)
    rwa [List.map_map] at h1
  · have h1 := hl.map (fun p => numOf p.1)
    have e2 : (vs.zip vs).map (fun p => numOf p.1) = ns := by
      have : (vs.zip vs).map (fun p => numOf p.1) = ((vs.zip vs).map Prod.fst).map numOf := by rw [List.map_map]; rfl
      rw [this, List.map_fst_zip (Nat.le_refl _), hI.nums]
    rwa [e2] at h1
theorem list_sort_any {a : Addr} {vs : List Value} {ns : List Int} {n : Nat} {P : Fin → Shared → Prop} (ho : s.heap.get? a = some (seqObj "list" vs.toArray n)) (hI : IntsAre vs ns) (h64 : vs.length ≤ 1000)
    (h : ∀ (out : Array Value) (ns' : List Int), IntsAre out.toList ns' → ns'.Perm ns → P (.done (.ret .none)) { s with heap := sortedHeap s.heap a vs out }) :
    wpAny (model prog w) A (Builtin.«list.sort» ⟨[.ref a], []⟩) P E s := by
  by_cases h2 : vs.toArray.size < 2
  · exact list_sort_tree ho hI (by simp at h2; lia) fun out ns' h1 h2 _ => h out ns' h1 h2
  rw [list_sort_plain]
  have ha : a < s.heap.objs.size := Heap.lt_size ho
  refine wpAny_bind (listItems_at ho rfl ?_)
  refine wpAny_bind (listUpdate_at ho rfl ?_ (hsz := by simp only [List.size_toArray, sizeLine_eq]; lia))
  obtain ⟨e1, ho1⟩ : ∃ e1, (s.heap.update a (Obj.mapSeq fun _ => #[])).get? a = some (seqObj "list" #[] e1) := ⟨_, get?_update_seq ho (fun _ => #[])⟩
  refine wpAny_bind (seqEpoch_at ho1 rfl ?_)
  refine wpAny_bind (wpAny_newTuple ?_ (by rw [sizeLine_eq]; simp; lia))
  refine wpAny_bind (wpAny_newList ?_)
  refine wpAny_holding ?_
  have ho6 : (((s.heap.update a (Obj.mapSeq fun _ => #[])).push (seqObj "tuple" vs.toArray 0)).push (seqObj "list" #[] 0)).get? a = some (seqObj "list" #[] e1) := by
    rw [Heap.get?_push_ne _ _ _ (by rw [size_push', Heap.size_update]; exact Nat.ne_of_lt (Nat.lt_succ_of_lt ha)), Heap.get?_push_ne _ _ _ (by rw [Heap.size_update]; exact Nat.ne_of_lt ha)]
    exact ho1
  show wpAny (model prog w) A _ P E { s with heap := ((s.heap.update a (Obj.mapSeq fun _ => #[])).push (seqObj "tuple" vs.toArray 0)).push (seqObj "list" #[] 0) }
  dsimp only
  rw [if_neg h2, if_neg h2]
  obtain ⟨v₁, v₂, rest, rfl⟩ : ∃ v₁ v₂ rest, vs = v₁ :: v₂ :: rest := by
    match vs, h2 with
    | [], h2 => simp at h2
    | [_], h2 => simp at h2
    | v₁ :: v₂ :: rest, _ => exact ⟨v₁, v₂, rest, rfl⟩
  rw [keyKind_ints hI]
  refine wpAny_bind (wpAny_pure ?_)
  refine wpAny_bind (wpAny_mono (wpS_runs (a₀ := pairsOf (v₁ :: v₂ :: rest)) (st := SortSt.mk' oneType' ((v₁ :: v₂ :: rest).toArray.zip (v₁ :: v₂ :: rest).toArray) #[] 7 none)
    (Q := fun _ st' => (arrOf st').Perm (pairsOf (v₁ :: v₂ :: rest)) ∧ failedOf st' = none) hI.intKeys ⟨Array.Perm.refl _, rfl, rfl, rfl⟩ fun pd st' hB => ⟨hB.perm, hB.failed⟩) ?_ fun _ _ e => e)
  rintro ⟨⟨⟩, st'⟩ s' ⟨rfl, hp, hf⟩
  dsimp only
  refine wpAny_bind (seqEpoch_at ho6 rfl ?_)
  refine wpAny_bind (listUpdate_at ho6 rfl ?_ (hsz2 := by refine Nat.le_trans (Nat.le_of_eq ((Array.size_map ..).trans (hp.size_eq.trans (pairsOf_size _)))) ?_; rw [sizeLine_eq]; lia))
  rw [hf]
  simp only [bne_self_eq_false, Bool.false_eq_true, if_false]
  obtain ⟨ns', h1, h2⟩ := sorted_perm hI hp
  exact wpAny_pure (h _ ns' h1 h2)
end
end Mine
end
section
open PySem PySem.W PySem.Calls PyProof.Rows
set_option maxRecDepth 100000
namespace Mine
set_option linter.unusedVariables false
section
variable {w : World} {s₀ s : Shared} {W W' X R : Led} {A : Around} {E : Value → Shared → Prop} {env : Env} {σ : Dm} {b : Bool} {Q : Value → Shared → Prop} {l : List Env}
theorem ints_of : ∀ {vs : List Value} {ns : List Int}, vs.length = ns.length → (∀ (j : Nat) (v : Value), vs[j]? = some v → ∃ n t, ns[j]? = some n ∧ v = .int n t) → IntsAre vs ns
  | [], [], _, _ => .nil
  | v :: vs, n :: ns, hl, h => by
    obtain ⟨n', t, e1, rfl⟩ := h 0 v rfl
    cases e1
    exact .cons n t (ints_of (by simpa using hl) fun j u hu => by
      obtain ⟨n', t', e1, e2⟩ := h (j + 1) u (by simpa using hu)
      exact ⟨n', t', by simpa using e1, e2⟩)
  | [], _ :: _, hl, _ => by simp at hl
  | _ :: _, [], hl, _ => by simp at hl
theorem ints_er : ∀ {vs : List Value} {ns : List Int}, IntsAre vs ns → vs.map er = ns.map vi
  | _, _, .nil => rfl
  | _, _, .cons n t h => by rw [List.map_cons, List.map_cons, ints_er h]; rfl
theorem sortedD {d : Addr} {kvs : List (Int × Value)} (S : Sp w s₀ W s) (hd : (d, .raw (fun o => o.IsDictOf (intKind pg w) kvs)) ∈ W) (hh : A.handled = none) (hz : kvs.length ≤ 900)
    (h : ∀ l (ns' : List Int) s', ns'.Perm (kvs.map (·.1)) → Sp w s₀ ((l, .list (ns'.map vi)) :: W) s' → Q (.ref l) s') : wpAny (model pg w) A (call (.builtin "sorted") [.ref d]) Q E s := by
  obtain ⟨o, ho, hO⟩ := S.at_ _ hd
  have hD : s.heap.DictOf (intKind pg w) d kvs := Heap.dictOf_iff.mpr ⟨o, ho, hO⟩
  obtain ⟨ep, hat⟩ := hD.dictAt
  have lo := S.notSys hd
  refine call_function_entry kind_sorted plain_sorted entry_sorted (args_sorted1 _) ?_
  unfold Builtin.«sorted»
  refine wpAny_bind (m := checkCount "sorted" 1 1 _) (wpAny_pure ?_)
  refine wpAny_bind (kdu_collect (A := A.in1) (kdl_dict (knd := intKind pg w) (kvs := kvs) (ep := ep) lo) hh hat (by rw [sizeLine_eq]; lia) fun h' tk acc hk hacc => ?_)
  have hl : acc.toList.length = kvs.length := by rw [Array.length_toList]; exact hacc.1
  have hI : IntsAre acc.toList (kvs.map (·.1)) := ints_of (by rw [hl, List.length_map]) fun j v hv => by
    obtain ⟨n, x, h1, h2⟩ := hacc.2 j v (by rw [← Array.getElem?_toList]; exact hv)
    obtain ⟨t, rfl⟩ := Value.isInt_shape h2
    exact ⟨n, t, by rw [List.getElem?_map, h1]; rfl, rfl⟩
  refine wpAny_bind (wpAny_newList ?_ (by rw [hl, sizeLine_eq]; lia))
  have S1 := S.grew hd (t := tk) hk
  have S2 := S1.push (t := tk) (o := { cls := .type "list", data := .seq acc.toList.toArray }) (x := .list (acc.toList.map er)) ⟨acc.toList, 0, rfl, rfl⟩
  have hoL : (h'.push { cls := .type "list", data := .seq acc.toList.toArray }).get? h'.objs.size = some (seqObj "list" acc.toList.toArray 0) := Heap.get?_push_size _ rfl
  refine wpAny_bind (wpAny_holding (wpAny_call_entry slot_list_sort ⟨_, hoL, rfl⟩ entry_list_sort (list_sort_any hoL hI (by rw [hl]; lia) fun out ns' a1 a2 => ⟨_, rfl, ?_⟩) (args_list_sort _)))
  refine wpAny_pure ⟨_, rfl, h _ ns' _ a2 ?_⟩
  obtain ⟨e, he⟩ := sortedHeap_at (out := out) hoL
  refine S2.change (t := tk) (y := .list (ns'.map vi)) .head (fun b o hb hbo => ?_) he ⟨out.toList, e, by simp, ints_er a1⟩ ?_
  · rw [sortedHeap_old hb (Heap.lt_size hbo)]; exact hbo
  · unfold sortedHeap
    simp only [Heap.size_update, Heap.size_push]
    lia
end
end Mine
end
section
open PySem PySem.W PySem.Calls PyProof.Rows
set_option maxRecDepth 100000
namespace Mine
set_option linter.unusedVariables false
set_option maxHeartbeats 1000000
section
variable {w : World} {s₀ s : Shared} {W W' X R : Led} {A : Around} {E : Value → Shared → Prop} {env : Env} {σ : Dm} {b : Bool} {Q : Value → Shared → Prop} {l : List Env}
theorem Sp.cast {d : Addr} {x y : SO} (S : Sp w s₀ ((d, x) :: W) s) (h : ∀ o, x.Is w.params o → y.Is w.params o) : Sp w s₀ ((d, y) :: W) s := by
  refine ⟨S.gd, S.rest, S.keep, fun p hp => ?_, S.nodup, fun p hp => ?_, S.big⟩
  · rcases List.mem_cons.mp hp with rfl | hp
    · obtain ⟨o, e, z⟩ := S.at_ _ (.head _); exact ⟨o, e, h o z⟩
    · exact S.at_ p (.tail _ hp)
  · rcases List.mem_cons.mp hp with rfl | hp
    · exact S.out (d, x) (.head _)
    · exact S.out p (.tail _ hp)
theorem stC {x : Str} {c : Addr} {v₀ : Option Value} {v : Value} {Q : Unit → Shared → Prop} (S : Sp w s₀ W s) (U : Upd W c (.cell v₀) (.cell (some v)) W') (h : ∀ s', Sp w s₀ W' s' → Q () s')
    (hc : env.cells.lookup x = some c := by rfl) (hk : env.scope.kind = .function := by rfl) (hl : env.kindOf x = some .cell := by rfl) : wpAny (model pg w) A (storeName env x v) Q E s := by
  refine wpAny_storeName_cell hk hl hc (S.cell U.mem) fun h' hn hs => ?_
  obtain ⟨o, o1, o2⟩ := hn
  exact h _ (S.change' U hs o1 o2)
noncomputable def fK (t : It) : Int × Value := ((t.i : Int) + 5, .ref t.a)
theorem fK_fresh {zl : List It} {t : It} (h : t.i ∉ zl.map It.i) : stored (zl.map fK) ((t.i : Int) + 5) (.ref t.a) = zl.map fK ++ [fK t] := by
  unfold stored
  rw [if_neg ?_]; · rfl
  rw [Bool.not_eq_true, List.any_eq_false]
  intro x hx q
  obtain ⟨u, hu, rfl⟩ := List.mem_map.mp hx
  have : (u.i : Int) + 5 = (t.i : Int) + 5 := of_decide_eq_true q
  exact h (List.mem_map.mpr ⟨u, hu, by lia⟩)
theorem fK_at {t : It} : ∀ {zl : List It}, (zl.map It.i).Nodup → t ∈ zl → valueAt (zl.map fK) ((t.i : Int) + 5) = some (.ref t.a)
  | u :: zl, hn, h => by
    rw [List.map_cons, List.nodup_cons] at hn
    unfold valueAt
    rw [List.map_cons, List.find?_cons]
    by_cases q : u.i = t.i
    · have : t = u := by
        rcases List.mem_cons.mp h with e | h
        · exact e
        · exact absurd (List.mem_map.mpr ⟨t, h, q.symm⟩) hn.1
      subst this
      simp [fK]
    · have : decide ((fK u).1 = (t.i : Int) + 5) = false := decide_eq_false (by show ¬ (u.i : Int) + 5 = _; lia)
      rw [this]
      rcases List.mem_cons.mp h with e | h
      · subst e; exact absurd rfl q
      · exact fK_at hn.2 h
theorem perm_map {α β : Type} {f : α → β} : ∀ {l : List α} {m : List β}, m.Perm (l.map f) → ∃ l' : List α, l'.Perm l ∧ l'.map f = m
  | [], m, h => ⟨[], .refl _, by rw [List.map_nil] at h; rw [h.eq_nil]; rfl⟩
  | x :: l, m, h => by
    rw [List.map_cons] at h
    obtain ⟨u, v, rfl⟩ := List.append_of_mem (h.mem_iff.mpr (.head _))
    have h2 : (u ++ v).Perm (l.map f) := (List.perm_cons (f x)).mp (List.perm_middle.symm.trans h)
    obtain ⟨l', p, e⟩ := perm_map h2
    obtain ⟨a, b, rfl, rfl, rfl⟩ := List.map_eq_append_iff.mp e
    exact ⟨a ++ x :: b, List.perm_middle.trans (p.cons x), by simp⟩
noncomputable def dead (σ : Dm) (t : It) : Prop := ∃ c, σ.At t c ∧ c.cnt = 0 ∧ c.freed = false ∧ c.num = (t.i : Int) + 5
theorem order_spec {zl : List It} {vl : Addr} (S : Sp w s₀ (objs σ ++ R) s) (hA : Rm A 3) (hl : (vl, .list (zl.map fun t => .ref t.a)) ∈ R) (hd : ∀ t ∈ zl, dead σ t) (hn : (zl.map It.i).Nodup) (hz : zl.length ≤ 900)
    (h : ∀ (ts : List It) l s', ts.Perm zl → Sp w s₀ (objs σ ++ ((l, .list (ts.map fun t => .ref t.a)) :: R)) s' → Q (.ref l) s') : wpAny (model pg w) A (call (.ref 459) [.ref vl]) Q E s := by
  refine callC1 [(k "things", .ref vl)] (k "found") none S hA.lt rfl (by kernel_rfl) rfl rfl rfl (fun L s1 S1 => ?_)
  refine wpAny_execs_cons (wpAny_Assign_Name (Dict0 S1 fun d s2 S2 => ?_))
  have S2 := S2.cast (y := .raw (fun o => o.IsDictOf (intKind pg w) [])) fun o ho => by
    obtain ⟨es, n, rfl, a⟩ := ho
    cases es with
    | nil => exact ⟨#[], n, ⟨rfl, rfl, rfl⟩, rfl, fun _ h => by simp at h, .nil, List.nodup_nil⟩
    | cons _ _ => exact a.elim
  have S2 := S2.inn
  refine stC S2 (uR (.tail (.tail .head))) fun s3 S3 => ?_
  have S3 : Sp w s₀ (objs σ ++ ((L, .ns [(k "things", .ref vl)]) :: (L + 1, .cell (some (.ref d))) :: (d, .raw (fun o => o.IsDictOf (intKind pg w) [])) :: R)) s3 := S3.perm (List.Perm.append_left _ ((List.Perm.swap _ _ _).trans (.cons _ (.swap _ _ _))))
  -- the loop
  refine wpAny_execs_cons (forI (L := L) (fun i X m R' => X = objs σ ∧ R' = (L + 1, .cell (some (.ref d))) :: (d, .raw (fun o => o.IsDictOf (intKind pg w) ((zl.take i).map fK))) :: R) S3 hA.2.2 ?_)
  refine nmL S3 (mR (.head _)) rfl (iterL S3 (mR (.tail _ (.tail _ (.tail _ hl)))) fun I s4 S4 => ⟨I, _, _, zl.map fun t => .ref t.a, _, _, _, rfl, Itr.list, S4, ⟨rfl, by rw [List.take_zero]; rfl⟩, ?_, ?_, ?_⟩)
  · rintro i X m R' ⟨rfl, rfl⟩
    exact mR (.tail _ (.tail _ (.tail _ hl)))
  · rintro I i X R' v m s E ⟨rfl, rfl⟩ hv S5
    rw [List.getElem?_map] at hv
    obtain ⟨t, ht, hv⟩ := Option.map_eq_some_iff.mp hv
    obtain rfl := er_ref hv.symm
    obtain ⟨c, hc, h0, hf, hnum⟩ := hd t (List.mem_of_getElem? ht)
    have mn : (put m (k "thing") (.ref t.a)).lookup (k "thing") = some (.ref t.a) := by rw [lookup_put, if_pos rfl]
    refine wpAny_execs_cons (wpAny_If (wpAny_isTrue_BoolOp (wpAny_allTrue_And_cons (wpAny_isTrue_Compare1 (Attribute_any_ (nmL S5 (mR (.head _)) mn (getA S5 (scI hc) (scD hc) rfl (by kernel_rfl) fun v6 s6 ev S6 => ?_)))))))
    obtain ⟨t6, rfl⟩ := er_int ev
    refine wpAny_Constant_int (PyProof.Rows.eq_int (wpAny_truthy_bool ?_))
    rw [h0]
    have S7 := S6.toks (s6.toks + 1)
    refine wpAny_allTrue_And_cons (wpAny_isTrue_Not (wpAny_isTrue_value (Attribute_any_ (nmL S7 (mR (.head _)) mn (getA S7 (scI hc) (scD hc) rfl (by kernel_rfl) fun v8 s8 ev S8 => ?_)))))
    obtain rfl := er_bool ev
    refine wpAny_truthy_bool ?_
    rw [hf]
    refine wpAny_allTrue_And_nil ?_
    refine wpAny_execs_cons (wpAny_Assign_Subscript (nmL S8 (mR (.head _)) mn (nmC (c := L + 1) (v := .ref d) S8 (mR (.tail _ (.tail _ (.head _)))) (Attribute_any_ (nmL S8 (mR (.head _)) mn (getA S8 (scI hc) (scD hc) rfl (by kernel_rfl) fun v9 s9 ev S9 => ?_))))))
    obtain ⟨t9, rfl⟩ := er_int ev
    obtain ⟨o, ho, hO⟩ := S9.at_ _ (show (d, SO.raw (fun o => o.IsDictOf (intKind pg w) ((zl.take i).map fK))) ∈ _ from mR (.tail _ (.tail _ (.tail _ (.head _)))))
    have hD : s9.heap.DictOf (intKind pg w) d ((zl.take i).map fK) := Heap.dictOf_iff.mpr ⟨o, ho, hO⟩
    rw [hnum]
    refine wpAny_setItem_pairs (intKind_is _ _ _ _) hD (fun h' x' hs' => ?_) (hsz := by rw [List.length_map, List.length_take, sizeLine_eq]; lia)
    have e1 : zl.take (i + 1) = zl.take i ++ [t] := by rw [List.take_add_one, ht]; rfl
    have hfr : t.i ∉ (zl.take i).map It.i := by
      have hn' := hn
      rw [← List.take_append_drop (i + 1) zl, e1, List.map_append, List.map_append] at hn'
      have h1 := (List.nodup_append.mp (List.nodup_append.mp hn').1).2.2
      exact fun hm => h1 _ hm _ (.head _) rfl
    rw [fK_fresh hfr] at x'
    obtain ⟨o', o1, o2⟩ := Heap.dictOf_iff.mp x'
    refine wpAny_execs_nil (wpAny_execs_nil ⟨.inl rfl, _, put m (k "thing") (.ref t.a), _, ⟨rfl, rfl⟩, ?_⟩)
    refine S9.change' (uR (.tail (.tail (.tail .head)))) hs' o1 ?_
    rw [e1, List.map_append]
    exact o2
  rintro X m R' s4 ⟨rfl, rfl⟩ S4
  rw [List.length_map, List.take_length] at S4
  -- the list
  refine wpAny_execs_cons (wpAny_Return_some (compP (s₀ := s₀) rfl (by decide) rfl (by decide) rfl hA.2.2 ?_))
  refine callN (nmB (v := .builtin "sorted") S4 (by kernel_rfl) (by kernel_rfl) (bi1 (nmC (c := L + 1) (v := .ref d) S4 (mR (.tail _ (.head _))) ?_)))
  refine sortedD S4 (mR (.tail _ (.tail _ (.head _)))) hA.2.2 (by rw [List.length_map]; exact hz) fun sl ns' s5 hp S5 => ?_
  have S5 := S5.inn
  have hp : ns'.Perm (zl.map fun t => (t.i : Int) + 5) := by rw [List.map_map] at hp; exact hp
  obtain ⟨ts, pt, rfl⟩ := perm_map hp
  have lt : ts.length = zl.length := pt.length_eq
  refine iterL S5 (mR (.head _)) fun I s6 S6 => ?_
  refine ⟨fun i acc X R' => X = objs σ ∧ R' = ((sl, .list ((ts.map fun t => (t.i : Int) + 5).map vi)) :: (L, .ns m) :: (L + 1, .cell (some (.ref d))) :: (d, .raw (fun o => o.IsDictOf (intKind pg w) (zl.map fK))) :: R) ∧ acc = (ts.take i).map (fun t => Value.ref t.a), I, _, _, (ts.map fun t => (t.i : Int) + 5).map vi, _, _, rfl, Itr.list, S6, ⟨rfl, rfl, rfl⟩, ?_, ?_, ?_, ?_⟩
  · rw [List.length_map, List.length_map, lt]; exact hz
  · rintro i acc X R' ⟨rfl, rfl, rfl⟩
    exact ⟨mR (.head _), by rw [List.length_map, List.length_take]; lia⟩
  · rintro C D I i acc X R' v m' s E ⟨rfl, rfl, rfl⟩ hv hm S7
    refine wpAny_pure ?_
    rw [if_pos rfl]
    rw [List.map_map, List.getElem?_map] at hv
    obtain ⟨t, ht, hv⟩ := Option.map_eq_some_iff.mp hv
    obtain ⟨tk, rfl⟩ := er_int hv.symm
    have htm : t ∈ zl := pt.mem_iff.mp (List.mem_of_getElem? ht)
    refine Subscript_ (nmC (c := L + 1) (v := .ref d) S7 (mR (.tail _ (.tail _ (.tail _ (.tail _ (.tail _ (.head _))))))) (nmL S7 (mR (.head _)) hm ?_))
    obtain ⟨o, ho, hO⟩ := S7.at_ _ (show (d, SO.raw (fun o => o.IsDictOf (intKind pg w) (zl.map fK))) ∈ _ from mR (.tail _ (.tail _ (.tail _ (.tail _ (.tail _ (.tail _ (.head _))))))))
    have hD : s.heap.DictOf (intKind pg w) d (zl.map fK) := Heap.dictOf_iff.mpr ⟨o, ho, hO⟩
    refine subscriptTail_builtin hD.typeIs slot_dict_getitem.lookup (wpAny_getItem_of (intKind_is _ _ _ _) hD.mapOf (fK_at hn htm) ?_)
    refine ⟨_, _, ⟨rfl, rfl, ?_⟩, S7.toks _⟩
    rw [List.take_add_one, ht, List.map_append]; rfl
  · rintro acc X R' D s ⟨rfl, rfl, rfl⟩ S7
    rw [List.length_map, List.length_map, List.take_length] at S7
    exact h ts D s pt (S7.sub (.append_left (.cons_cons _ (.cons _ (.cons _ (.cons _ (.cons _ (.refl _)))))) _))
end
end Mine
end
section
open PySem PySem.W PySem.Calls PyProof.Rows
set_option maxRecDepth 100000
namespace Mine
set_option linter.unusedVariables false
set_option maxHeartbeats 1000000
section
variable {w : World} {s₀ s : Shared} {W W' X R : Led} {A : Around} {E : Value → Shared → Prop} {env : Env} {σ : Dm} {b : Bool} {Q : Value → Shared → Prop} {l : List Env}
noncomputable abbrev Dm.setZ (σ : Dm) (l : Addr) : Dm := { σ with zp := l, zero := [] }
theorem setZero {l : Addr} {Q : Unit → Shared → Prop} (S : Sp w s₀ (objs σ ++ ((l, .list []) :: R)) s) (h : ∀ s', Sp w s₀ (objs (σ.setZ l) ++ ((σ.zp, .list (σ.zero.map fun t => .ref t.a)) :: R)) s' → Q () s') :
    wpAny (model pg w) A (setAttr (.ref σ.A.hp) (k "zero") (.ref l)) Q E s := by
  have U : Upd (objs σ ++ ((l, .list []) :: R)) σ.A.hpd (.dict (hpF σ.A.lim σ.last σ.zp)) (.dict (hpF σ.A.lim σ.last l)) ((((fixed σ).set 8 (σ.A.hpd, .dict (hpF σ.A.lim σ.last l))) ++ (σ.refs.flatMap (Rf.objs σ.A) ++ σ.scs.flatMap Sc.objs)) ++ ((l, .list []) :: R)) :=
    Upd.left (Upd.left ⟨8, rfl, rfl⟩)
  refine setA S (mF (i := 7) rfl) U (by kernel_rfl) fun s' S' => h s' (S'.perm ?_)
  exact swapMid (l₁ := ((fixed σ).set 8 (σ.A.hpd, .dict (hpF σ.A.lim σ.last l))).take 24) (x := (σ.zp, .list (σ.zero.map fun t => .ref t.a))) (l₂ := (σ.i1p, .list (σ.i1.map itV)) :: (σ.i2p, SO.list (σ.i2.map itV)) :: (σ.refs.flatMap (Rf.objs σ.A) ++ σ.scs.flatMap Sc.objs))
structure Mz (A₀ : Ad) (t0 : Tok) (m : List (Str × Value)) : Prop where
  self : m.lookup (k "self") = some (.ref A₀.ctr)
  start : m.lookup (k "start") = some (.int 0 t0)
theorem Mz.put {A₀ : Ad} {t0 : Tok} {m : List (Str × Value)} {x : Str} {v : Value} (h : Mz A₀ t0 m) (h1 : k "self" ≠ x := by decide) (h2 : k "start" ≠ x := by decide) : Mz A₀ t0 (put m x v) :=
  ⟨by rw [lookup_put, if_neg h1]; exact h.self, by rw [lookup_put, if_neg h2]; exact h.start⟩
theorem settle_spec {t0 : Tok} (S : Sp w s₀ (objs σ ++ R) s) (hA : Rm A 10) (hb : Bd σ 0 0)
    (h : ∀ σ' s', Fr2 σ [] σ' → Sp w s₀ (objs σ' ++ R) s' → Q .none s') : wpAny (model pg w) A (call (.ref 534) [.ref σ.A.ctr, .int 0 t0]) Q E s := by
  have hzl : σ.zero.length ≤ 900 := by have := hb.wf.zero; have := hb.n; lia
  refine callS [(k "start", .int 0 t0), (k "self", .ref σ.A.ctr)] S hA.lt rfl (by kernel_rfl) (BindsTo.of_eq rfl) (fun L s1 S1 => ?_)
  refine wpAny_execs_cons (wpAny_While (codeAny_whileLoop (fun n s => (n = 1 ∧ Sp w s₀ (objs σ ++ ((L, .ns [(k "start", .int 0 t0), (k "self", .ref σ.A.ctr)]) :: R)) s) ∨
    (n = 0 ∧ ∃ σ' m, Fr2 σ [] σ' ∧ Mz σ.A t0 m ∧ Sp w s₀ (objs σ' ++ ((L, .ns m) :: R)) s)) ?_ 1 (.inl ⟨rfl, S1⟩)))
  rintro n s2 (⟨rfl, S2⟩ | ⟨rfl, σ', m, F, hm, S2⟩)
  · refine wpAny_isTrue_Compare1 (callN (nmB (v := .builtin "len") S2 (by kernel_rfl) (by kernel_rfl) (bi1 (Attribute_any_ (Attribute_any_ (nmL S2 (mR (.head _)) rfl (getAr S2 (mF (i := 3) rfl) (mF (i := 4) rfl) rfl (by kernel_rfl) fun s3 S3 => ?_)))))))
    refine getAr S3 (mF (i := 7) rfl) (mF (i := 8) rfl) rfl (by kernel_rfl) fun s4 S4 => ?_
    refine lenL S4 (mF (i := 24) rfl) (fun t5 s5 S5 => nmL S5 (mR (.head _)) rfl (PyProof.Rows.gt_int (wpAny_truthy_bool ?_))) (by rw [List.length_map]; lia)
    rw [List.length_map]
    by_cases q : σ.zero = []
    · rw [q]
      refine wpAny_execs_nil ?_
      have F : Fr2 σ [] σ := by
        have this : Fr2 σ [] (σ.setZ σ.zp) := Fr2.start (zp := σ.zp) (ts := []) hb.wf (by rw [q])
        have e : σ.setZ σ.zp = σ := by
          obtain ⟨⟩ := σ
          dsimp only at q; subst q; rfl
        rwa [e] at this
      exact wpAny_execs_nil (h σ s5 F S5.out1)
    have hpos : 0 < σ.zero.length := List.length_pos_iff.mpr q
    rw [decide_eq_true (by lia)]
    -- dying
    refine wpAny_execs_cons (asgL S5 (callN (nmG (v := .ref 459) S5 (by kernel_rfl) (df1 S5 (by kernel_rfl) (slR (s₀ := s₀) (Attribute_any_ (Attribute_any_ (nmL S5 (mR (.head _)) rfl (getAr S5 (mF (i := 3) rfl) (mF (i := 4) rfl) rfl (by kernel_rfl) fun s6 S6 => ?_)))))))))
    refine getAr S6 (mF (i := 7) rfl) (mF (i := 8) rfl) rfl (by kernel_rfl) fun s7 S7 => ?_
    refine evalPart_some_step (nmL S7 (mR (.head _)) rfl (evalPart_none_step ?_))
    refine ⟨_, σ.zp, σ.zero.map fun t => .ref t.a, σ.zero.map fun t => .ref t.a, some 0, none, rfl, S7, mF (i := 24) rfl, by rw [List.length_map]; lia, .int _ _, .none, pkFrom (a := 0), fun zl s8 S8 => ?_⟩
    have S8 := S8.inn
    refine ⟨⟨_, S8⟩, order_spec S8 ((hA.down _).le (by decide)) (.head _) (fun t ht => ?_) ?_ hzl fun ts dl s9 pt S9 => ?_⟩
    · obtain ⟨c, hc, h0⟩ := hb.wf.at0 t ht
      obtain ⟨a1, a2, a3, a4⟩ := hb.wf.sc _ _ hc.1
      exact ⟨c, hc, h0, a2, a1⟩
    · exact (List.nodup_append.mp hb.wf.nodup).2.1
    refine ⟨_, _, L, _, S9, uR (.tail (.tail .head)), rfl, fun s10 S10 => ?_⟩
    have S10 := (S10.sub (W' := objs σ ++ ((dl, .list (ts.map fun t => .ref t.a)) :: (L, _) :: R)) (.append_left (.cons_cons _ (.cons _ (.refl _))) _)).swap
    -- zero = []
    refine wpAny_execs_cons (asg (slR (s₀ := s₀) (Attribute_any_ (Attribute_any_ (nmL S10 (mR (.head _)) rfl (getAr S10 (mF (i := 3) rfl) (mF (i := 4) rfl) rfl (by kernel_rfl) fun s11 S11 => ?_))))))
    refine getAr S11 (mF (i := 7) rfl) (mF (i := 8) rfl) rfl (by kernel_rfl) fun s12 S12 => ?_
    refine evalPart_none_step (evalPart_some_step (nmL S12 (mR (.head _)) rfl ?_))
    refine ⟨_, σ.zp, σ.zero.map fun t => .ref t.a, [], none, some 0, rfl, S12, mF (i := 24) rfl, by rw [List.length_map]; lia, .none, .int _ _, pkUpto (b := 0), fun l2 s13 S13 => ?_⟩
    have S13 := S13.inn
    refine Attribute_any_ (nmL S13 (mR (.tail _ (.head _))) rfl (getAr S13 (mF (i := 3) rfl) (mF (i := 4) rfl) rfl (by kernel_rfl) fun s14 S14 => ?_))
    refine setZero S14 fun s15 S15 => ?_
    have S15 := S15.out1
    have F0 : Fr2 σ ts (σ.setZ l2) := Fr2.start hb.wf pt
    have hnt : (ts.map It.i).Nodup := (pt.map It.i).nodup_iff.mpr (List.nodup_append.mp hb.wf.nodup).2.1
    have hdis : ∀ t ∈ ts, ∀ b u, some u ∈ σ.it b → u.i ≠ t.i := fun t ht b u hu e => by
      have m2 : t.i ∈ σ.zero.map It.i := List.mem_map_of_mem (pt.mem_iff.mp ht)
      have m1 : u.i ∈ ixs (σ.it false) ++ ixs (σ.it true) := by
        cases b
        · exact List.mem_append_left _ (mem_ixs.mpr ⟨u, hu, rfl⟩)
        · exact List.mem_append_right _ (mem_ixs.mpr ⟨u, hu, rfl⟩)
      exact (List.nodup_append.mp hb.wf.nodup).2.2 _ m1 _ m2 e
    -- finish
    refine wpAny_execs_cons (forI (L := L) (fun i X m R' => X = objs (σ.setZ l2) ∧ Mz σ.A t0 m ∧ m.lookup (k "dying") = some (.ref dl) ∧ R' = (dl, .list (ts.map fun t => .ref t.a)) :: R) S15 hA.2.2 ?_)
    refine nmL S15 (mR (.head _)) rfl (iterL S15 (mR (.tail _ (.head _))) fun I s16 S16 => ⟨I, _, _, ts.map fun t => .ref t.a, _, _, _, rfl, Itr.list, S16, ⟨rfl, ⟨rfl, rfl⟩, rfl, rfl⟩, ?_, ?_, ?_⟩)
    · rintro i X m R' ⟨rfl, hm, hmd, rfl⟩
      exact mR (.tail _ (.head _))
    · rintro I i X R' v m s E ⟨rfl, hm, hmd, rfl⟩ hv S17
      rw [List.getElem?_map] at hv
      obtain ⟨t, ht, hv⟩ := Option.map_eq_some_iff.mp hv
      obtain rfl := er_ref hv.symm
      obtain ⟨c, hc, h0, _⟩ := F0.rest t (List.mem_of_getElem? ht)
      refine wpAny_execs_cons (wpAny_Expr (callM (nmL S17 (mR (.head _)) (hm.put (x := k "thing")).self (mtI (f := 541) S17 (mF (σ := σ.setZ l2) (i := 3) rfl) (mF (σ := σ.setZ l2) (i := 4) rfl) rfl (by kernel_rfl) (df1 S17 (by kernel_rfl) (nmL S17 (mR (.head _)) (by rw [lookup_put, if_pos rfl]) ⟨⟨_, S17⟩, ?_⟩))))))
      refine finish_spec S17 ((hA.down _).le (by decide)) hc h0 (fun s18 S18 => ?_) rfl
      exact wpAny_execs_nil ⟨.inl rfl, _, _, _, ⟨rfl, hm.put, by rw [lookup_put, if_neg (by decide)]; exact hmd, rfl⟩, S18⟩
    rintro X m R' s17 ⟨rfl, hm, hmd, rfl⟩ S17
    -- free
    refine wpAny_execs_cons (forI (L := L) (fun i X m R' => ∃ σ', X = objs σ' ∧ Fr2 σ (ts.drop i) σ' ∧ Mz σ.A t0 m ∧ R' = (dl, .list (ts.map fun t => .ref t.a)) :: R) S17 hA.2.2 ?_)
    refine nmL S17 (mR (.head _)) hmd (iterL S17 (mR (.tail _ (.head _))) fun I s18 S18 => ⟨I, _, _, ts.map fun t => .ref t.a, _, _, _, rfl, Itr.list, S18, ⟨_, rfl, F0, hm, rfl⟩, ?_, ?_, ?_⟩)
    · rintro i X m R' ⟨σ', rfl, F, hm, rfl⟩
      exact mR (.tail _ (.head _))
    · rintro I i X R' v m s E ⟨σ', rfl, F, hm, rfl⟩ hv S19
      rw [List.getElem?_map] at hv
      obtain ⟨t, ht, hv⟩ := Option.map_eq_some_iff.mp hv
      obtain rfl := er_ref hv.symm
      have mn : (put m (k "thing") (.ref t.a)).lookup (k "thing") = some (.ref t.a) := by rw [lookup_put, if_pos rfl]
      have hlt := (List.getElem?_eq_some_iff.mp ht).1
      have ed : ts.drop i = t :: ts.drop (i + 1) := by rw [List.drop_eq_getElem_cons hlt, (List.getElem?_eq_some_iff.mp ht).2]
      rw [ed] at F
      have htm := List.mem_of_getElem? ht
      obtain ⟨c, hc, h0, hf, hwk, hval⟩ := F.rest t (.head _)
      refine wpAny_execs_cons (wpAny_If (wpAny_isTrue_BoolOp (wpAny_allTrue_And_cons (wpAny_isTrue_Compare1 (Attribute_any_ (nmL S19 (mR (.head _)) mn (getA S19 (scI hc) (scD hc) rfl (by kernel_rfl) fun v20 s20 ev S20 => ?_)))))))
      obtain ⟨t20, rfl⟩ := er_int ev
      refine wpAny_Constant_int (PyProof.Rows.eq_int (wpAny_truthy_bool ?_))
      rw [h0]
      have S21 := S20.toks (s20.toks + 1)
      refine wpAny_allTrue_And_cons (wpAny_isTrue_Not (wpAny_isTrue_value (Attribute_any_ (nmL S21 (mR (.head _)) mn (getA S21 (scI hc) (scD hc) rfl (by kernel_rfl) fun v22 s22 ev S22 => ?_)))))
      obtain rfl := er_bool ev
      refine wpAny_truthy_bool ?_
      rw [hf]
      refine wpAny_allTrue_And_nil ?_
      refine wpAny_execs_cons (wpAny_Expr (callM (nmL S22 (mR (.head _)) (hm.put (x := k "thing")).self (mtI (f := 548) S22 (C := 551) (d := σ.A.cd) (by rw [← F.A]; exact mF (i := 3) rfl) (by rw [← F.A]; exact mF (i := 4) rfl) rfl (by kernel_rfl) (df1 S22 (by kernel_rfl) (nmL S22 (mR (.head _)) mn ⟨⟨_, S22⟩, ?_⟩))))))
      have okc : c.val.ok σ' := by
        obtain ⟨c0, hc0, _⟩ := hb.wf.at0 t (pt.mem_iff.mp htm)
        rw [hval, vl_at hc0]
        exact ok_of (hb.wf.sc _ _ hc0.1).2.2.2 F.refs
      refine free_spec S22 ((hA.down _).le (by decide)) hc hwk okc (F.loose hval) (by rw [F.zero]; simp) (fun wk s23 S23 => ?_) F.A
      have hnt' : ((t :: ts.drop (i + 1)).map It.i).Nodup := by rw [← ed]; exact ((List.drop_sublist i ts).map It.i).nodup hnt
      exact wpAny_execs_nil (wpAny_execs_nil ⟨.inl rfl, _, _, _, ⟨_, rfl, F.step hb.wf hnt' (hdis t htm) hc hval, hm.put, rfl⟩, S23⟩)
    rintro X m R' s19 ⟨σ', rfl, F, hm, rfl⟩ S19
    rw [List.length_map, List.drop_length] at F
    exact wpAny_execs_nil ⟨0, by lia, .inr ⟨rfl, σ', m, F, hm, S19.sub (.append_left (.cons_cons _ (.cons _ (.refl _))) _)⟩⟩
  · refine wpAny_isTrue_Compare1 (callN (nmB (v := .builtin "len") S2 (by kernel_rfl) (by kernel_rfl) (bi1 (Attribute_any_ (Attribute_any_ (nmL S2 (mR (.head _)) hm.self (getAr S2 (C := 551) (d := σ.A.cd) (by rw [← F.A]; exact mF (i := 3) rfl) (by rw [← F.A]; exact mF (i := 4) rfl) rfl (by kernel_rfl) fun s3 S3 => ?_)))))))
    refine getAr S3 (C := 218) (d := σ.A.hpd) (by rw [← F.A]; exact mF (i := 7) rfl) (by rw [← F.A]; exact mF (i := 8) rfl) rfl (by kernel_rfl) fun s4 S4 => ?_
    refine lenL S4 (mF (i := 24) rfl) (fun t5 s5 S5 => nmL S5 (mR (.head _)) hm.start (PyProof.Rows.gt_int (wpAny_truthy_bool ?_))) (by rw [List.length_map, F.zero]; simp)
    rw [List.length_map, F.zero]
    refine wpAny_execs_nil ?_
    exact wpAny_execs_nil (h σ' s5 F S5.out1)
end
end Mine
end
section
open PySem PySem.W PySem.Calls PyProof.Rows
set_option maxRecDepth 100000
namespace Mine
set_option linter.unusedVariables false
set_option maxHeartbeats 1000000
section
variable {w : World} {s₀ s : Shared} {W W' X R : Led} {A : Around} {E : Value → Shared → Prop} {env : Env} {σ : Dm} {b : Bool} {Q : Value → Shared → Prop} {l : List Env}
theorem countP_pair {α β : Type} {p : α → Bool} {q : β → Bool} : ∀ {xs : List α} {ys : List β}, xs.length = ys.length → (∀ (j : Nat) x y, xs[j]? = some x → ys[j]? = some y → p x = q y) → xs.countP p = ys.countP q
  | [], [], _, _ => rfl
  | x :: xs, y :: ys, hl, h => by
    rw [List.countP_cons, List.countP_cons, countP_pair (by simpa using hl) fun j x y hx hy => h (j + 1) x y (by simpa using hx) (by simpa using hy), h 0 x y rfl rfl]
  | [], _ :: _, hl, _ => by simp at hl
  | _ :: _, [], hl, _ => by simp at hl
open Classical in
theorem countT {l x : Addr} {ts : List Tv} {n : Int} (S : Sp w s₀ W s) (hu : A.units + 64 < cLine) (hl : (l, .list (ts.map Tv.val)) ∈ W) (ht : ∀ p ∈ ts.flatMap Tv.objs, p ∈ W) (hx : (x, .tup [.str (k "ref") 0, vi n]) ∈ W)
    (h : ∀ t s', Sp w s₀ W s' → Q (.int ((ts.map Tv.t).countP fun t => decide (t = .ref n) : Nat) t) s') : wpAny (model pg w) A (call (.builtin "list.count") [.ref l, .ref x]) Q E s := by
  obtain ⟨vs, m, e1, e2⟩ := S.list hl
  have rx : Reads s.heap (.ref x) (TV.ref n).data [] := tv_reads (x := ⟨.ref n, x⟩) S (fun p hp => by rw [List.mem_singleton.mp hp]; exact hx) rfl
  let e : Value → Bool := fun y => decide (∃ tv ∈ ts, tv.t = .ref n ∧ y = .ref tv.a)
  have hlen : vs.length = ts.length := by have := congrArg List.length e2; simpa using this
  have key : ∀ (j : Nat) y tv, vs[j]? = some y → ts[j]? = some tv → e y = decide (tv.t = .ref n) := by
    intro j y tv hy htv
    have hm := List.mem_of_getElem? htv
    have hv : er y = tv.val := by
      have q : (vs.map er)[j]? = (ts.map Tv.val)[j]? := by rw [e2]
      rw [List.getElem?_map, List.getElem?_map, hy, htv] at q
      exact Option.some.inj q
    show decide _ = decide _
    refine decide_eq_decide.mpr ⟨fun ⟨tv', hm', h1, h2⟩ => ?_, fun h1 => ⟨tv, hm, h1, ?_⟩⟩
    · subst h2
      obtain ⟨t, a⟩ := tv
      obtain ⟨t', a'⟩ := tv'
      cases h1
      cases t with
      | none => cases hv
      | int i => cases hv
      | str i => cases hv
      | ref n' =>
        have ea : a' = a := by cases hv; rfl
        subst ea
        by_cases q : n' = n
        · rw [q]
        · exfalso
          have m1 := ht (a', .tup [.str (k "ref") 0, vi n']) (List.mem_flatMap.mpr ⟨_, hm, .head _⟩)
          have m2 := ht (a', .tup [.str (k "ref") 0, vi n]) (List.mem_flatMap.mpr ⟨_, hm', .head _⟩)
          exact S.ne m1 m2 (by intro z; injection z with z; injection z with _ z; injection z with z; injection z with z; exact q z) rfl
    · obtain ⟨t, a⟩ := tv
      cases h1
      exact er_ref hv
  refine call_meets PySem.F.slot_list_count ⟨_, e1, rfl⟩ PySem.F.entry_list_count (PySem.F.args_list_count_2 _ _) (SeqAt.list_countAt l vs.toArray m none #[] (.ref x) e) ⟨e1, fun y hy => ?_, ?_⟩
  · obtain ⟨j, hj⟩ := List.getElem?_of_mem (by simpa using hy : y ∈ vs)
    have hjt : j < ts.length := by rw [← hlen]; exact (List.getElem?_eq_some_iff.mp hj).1
    have htv : ts[j]? = some ts[j] := List.getElem?_eq_getElem hjt
    have hv : er y = ts[j].val := by
      have q : (vs.map er)[j]? = (ts.map Tv.val)[j]? := by rw [e2]
      rw [List.getElem?_map, List.getElem?_map, hj, htv] at q
      exact Option.some.inj q
    have ry := tv_reads S (fun p hp => ht p (List.mem_flatMap.mpr ⟨ts[j], List.getElem_mem hjt, hp⟩)) hv
    rw [key j y _ hj htv, ← data_eqv]
    refine SeqAt.eqAt_reads _ _ _ _ _ _ _ _ ry rx (data_lay _).1 (data_lay _).1 ?_
    have := (data_lay (ts[j]).t).2
    show A.units + 1 + _ < _
    lia
  · have : vs.toArray.toList.countP e = (ts.map Tv.t).countP fun t => decide (t = .ref n) := by
      rw [List.countP_map]
      exact countP_pair hlen key
    rw [this]
    exact h _ _ (S.toks _)
end
end Mine
end
section
open PySem PySem.W PySem.Calls PyProof.Rows
set_option maxRecDepth 100000
namespace Mine
set_option linter.unusedVariables false
set_option maxHeartbeats 1000000
noncomputable def lB : List Stmt := match stAt 64 with
  | .FunctionDef _ _ body _ _ _ _ _ _ _ => body
  | _ => []
noncomputable def lS : Scope := match stAt 64 with
  | .FunctionDef _ _ _ _ _ _ scope _ _ _ => scope
  | _ => default
section
variable {w : World} {s₀ s : Shared} {W W' X R : Led} {A : Around} {E : Value → Shared → Prop} {env : Env} {σ : Dm} {b : Bool} {Q : Value → Shared → Prop} {l : List Env}
theorem callKw0 {pos : Pos} {f : Value} {first : List Value} {x : Str} {e : Expr} {kp : Pos} (S : Sp w s₀ W s) (hk : keepIn (K w.params) f = true)
    (h : wpAny (model pg w) A (eval e env) (fun v s₁ => (∃ W', Sp w s₀ W' s₁) ∧ wpAny (model pg w) A (call f (first ++ []) [(x, v)]) Q E s₁) E s) :
    wpAny (model pg w) A (callWith pos f first (backTo pos (starEach [] env)) (backToKw pos (keywordEach [⟨some x, e, kp⟩] env))) Q E s := by
  exact callWith_KW0 S.K hk rfl (kwAll_cons (wpAny_mono h (fun v s₁ z => kwAll_nil ⟨z.1.elim fun _ S' => S'.K, z.2⟩) fun _ _ z => z))
theorem limits_new {t : Tok} (S : Sp w s₀ W s) (hA : Rm A 2) (h : ∀ x d s', Sp w s₀ ((x, .inst 573 d) :: (d, .dict limF) :: W) s' → Q (.ref x) s') : wpAny (model pg w) A (call (.ref 573) [] [(k "items", .int 7 t)]) Q E s :=
  mkC (fI := 570) S (by kernel_rfl) (by kernel_rfl) (by kernel_rfl) fun x d s3 S3 => limits_init (Q := fun _ s'' => Q (.ref x) s'') S3 hA.make fun s4 S4 => h x d s4 S4
theorem heap_new {lim : Addr} (S : Sp w s₀ W s) (hA : Rm A 2) (h : ∀ x d zp s', Sp w s₀ ((x, .inst 218 d) :: (d, .dict (hpF lim 0 zp)) :: (zp, .list []) :: W) s' → Q (.ref x) s') : wpAny (model pg w) A (call (.ref 218) [.ref lim]) Q E s :=
  mkC (fI := 173) S (by kernel_rfl) (by kernel_rfl) (by kernel_rfl) fun x d s3 S3 => heap_init (Q := fun _ s'' => Q (.ref x) s'') S3 hA.make fun zp s4 S4 => h x d zp s4 S4
theorem counter_new {hp : Addr} (S : Sp w s₀ W s) (hA : Rm A 2) (h : ∀ x d plc emp s', Sp w s₀ ((x, .inst 551 d) :: (d, .dict (ctF hp plc emp)) :: (plc, .dict []) :: (emp, .dict []) :: W) s' → Q (.ref x) s') : wpAny (model pg w) A (call (.ref 551) [.ref hp, .none]) Q E s :=
  mkC (fI := 473) S (by kernel_rfl) (by kernel_rfl) (by kernel_rfl) fun x d s3 S3 => counter_init (Q := fun _ s'' => Q (.ref x) s'') S3 hA.make fun plc emp s4 S4 => h x d plc emp s4 S4
theorem slOld {value : Expr} {lower upper : Option Expr} {p pos : Pos} {sl : Addr} {xs : List Value} (hsl : s₀.heap.IsList sl xs.toArray) (hz : xs.length ≤ 1000)
    (h : wpAny (model pg w) A (eval value env) (fun o s₁ => wpAny (model pg w) A (evalPart lower env) (fun vl s₂ => wpAny (model pg w) A (evalPart upper env) (fun vu s₃ =>
      ∃ W ys lo hi, o = .ref sl ∧ Sp w s₀ W s₃ ∧ IsPart vl lo ∧ IsPart vu hi ∧ Pk lo hi (xs.map er) ys ∧ ∀ l' s', Sp w s₀ ((l', .list ys) :: W) s' → Q (.ref l') s') E s₂) E s₁) E s) :
    wpAny (model pg w) A (eval (.Subscript value (.Slice lower upper none p) pos) env) Q E s := by
  refine Subscript_ (wpAny_mono h (fun o s₁ h₁ => wpAny_Slice (wpAny_mono h₁ (fun vl s₂ h₂ => wpAny_mono h₂ (fun vu s₃ h₃ => ?_) fun _ _ e => e) fun _ _ e => e)) fun _ _ e => e)
  rw [evalPart_none]
  refine wpAny_pure ?_
  obtain ⟨W, ys, lo, hi, rfl, S, p1, p2, pk, z⟩ := h₃
  have S1 := S.push (t := s₃.toks) (o := { cls := .type "slice", data := .fields #[vl, vu, .none] }) (x := .raw fun _ => True) trivial
  obtain ⟨o, ho, hc, n, hd⟩ := hsl
  have h1 : (s₃.heap.push { cls := .type "slice", data := .fields #[vl, vu, .none] }).IsList sl xs.toArray := ⟨o, S1.keep _ _ ho, hc, n, hd⟩
  obtain ⟨us, k1, k2⟩ := pk xs rfl
  refine slTail h1.typeIs list_getitem_lookup (wpAny_getItem_list_slice h1 (Heap.IsSliceOf.new ..) p1 p2 .none (by intro q; cases q) ?_ (by rw [List.size_toArray]; exact fit hz))
  have S2 := S1.push (t := s₃.toks) (o := { cls := .type "list", data := .seq (slicePick xs.toArray lo hi none) }) (x := .list ys) ⟨us, 0, by rw [k1], k2⟩
  exact z _ _ (S2.sub (.cons_cons _ (.cons _ (.refl _))))
theorem asS2 {o1 i1 o2 i2 : Expr} {px py pos : Pos} {k' : Nat} {t : Addr} {a c : Addr} {Q : Unit → Shared → Prop} {p : Addr × SO} (S : Sp w s₀ W s) (hp : p ∈ W) (hh : A.handled = none) (ht : (t, .tup [.ref a, .ref c]) ∈ W)
    (h : ∀ s', Sp w s₀ W s' → wpAny (model pg w) A (eval o1 env) (fun ov s₂ => wpAny (model pg w) A (eval i1 env) (fun iv s₃ => wpAny (model pg w) A (setItem ov iv (.ref a)) (fun _ s₄ =>
      wpAny (model pg w) A (eval o2 env) (fun ov s₂ => wpAny (model pg w) A (eval i2 env) (fun iv s₃ => wpAny (model pg w) A (setItem ov iv (.ref c)) (fun _ s₄ => Q () s₄) E s₃) E s₂) E s₄) E s₃) E s₂) E s')
    (hq : assignEach [.Subscript o1 i1 px, .Subscript o2 i2 py] env = [(false, assign (.Subscript o1 i1 px) env), (false, assign (.Subscript o2 i2 py) env)] := by rfl) :
    wpAny (model pg w) A (assign (.Tuple [.Subscript o1 i1 px, .Subscript o2 i2 py] k' pos) env (.ref t)) Q E s := by
  obtain ⟨vs, n, e1, e2⟩ := S.tup ht
  rcases vs with _ | ⟨u, _ | ⟨v, _ | ⟨z, vs⟩⟩⟩
  · simp at e2
  · simp at e2
  · rw [List.map_cons, List.map_cons, List.map_nil] at e2
    obtain ⟨q1, q2⟩ := List.cons.inj e2
    obtain ⟨q2, _⟩ := List.cons.inj q2
    obtain rfl := er_ref q1
    obtain rfl := er_ref q2
    refine wpAny_assign_Tuple hh (items := #[.ref a, .ref c]) ⟨_, e1, rfl, n, rfl⟩ (by rw [hq]; rfl) (by rw [hq]; rfl) fun h' hs => ?_
    have S1 := S.grew hp (t := s.toks) (h' := h') fun b o e => hs b o (Nat.ne_of_lt (Heap.lt_size e)) e
    rw [hq]
    show wpAny _ _ (assignInOrder [assign (.Subscript o1 i1 px) env, assign (.Subscript o2 i2 py) env] [.ref a, .ref c]) _ _ _
    simp only [assignInOrder]
    refine wpAny_bind (wpAny_holding (kas_sub (wpAny_mono (h _ S1) (fun ov s2 z => wpAny_mono z (fun iv s3 z => wpAny_mono z (fun _ s4 z => ?_) fun _ _ e => e) fun _ _ e => e) fun _ _ e => e)))
    refine wpAny_bind (wpAny_holding (kas_sub (wpAny_mono z (fun ov s2 z => wpAny_mono z (fun iv s3 z => wpAny_mono z (fun _ s4 z => ?_) fun _ _ e => e) fun _ _ e => e) fun _ _ e => e)))
    exact wpAny_pure z
  · simp at e2
end
end Mine
end
section
open PySem PySem.W PySem.Calls PyProof.Rows
set_option maxRecDepth 100000
namespace Mine
set_option linter.unusedVariables false
set_option maxHeartbeats 2000000
section
variable {w : World} {s₀ s : Shared} {W W' X R : Led} {A : Around} {E : Value → Shared → Prop} {env : Env} {σ : Dm} {b : Bool} {l : List Env}
theorem slI {vs : List Value} {ns : List Int} (hI : IntsAre vs ns) : Pk none (some ((60 : Nat) : Int)) (vs.map er) ((ns.take 60).map vi) := by
  rw [List.map_take, ← ints_er hI]; exact pkUpto (b := 60)
noncomputable def preL (σ : Dm) (d1 d2 : Int) : Led := ((fixed σ).set 19 (σ.A.a1d, .dict (arF 3 d1 σ.A.a1w σ.i1p))).set 22 (σ.A.a2d, .dict (arF 4 d2 σ.A.a2w σ.i2p))
theorem mP {σ : Dm} {d1 d2 : Int} {i : Nat} {p : Addr × SO} (h : (preL σ d1 d2)[i]? = some p) : p ∈ preL σ d1 d2 ++ R := List.mem_append_left _ (List.mem_of_getElem? h)
theorem WF_start {σ : Dm} (e1 : σ.scs = []) (e2 : σ.zero = []) (e3 : ∀ b, σ.it b = []) (e4 : σ.last = 4) (e5 : ∀ j, σ.cj j = 1) (e6 : σ.script.length ≤ 60) : WF σ := by
  refine ⟨fun b => by rw [e3]; simp, fun b t ht => ?_, fun t ht => ?_, ?_, fun i c hi => ?_, by rw [e4, e1]; rfl, fun j => by rw [e5, e1]; rfl, e6⟩
  · rw [e3] at ht; cases ht
  · rw [e2] at ht; cases ht
  · rw [e3, e3, e2, e1]; exact .refl _
  · rw [e1] at hi; simp at hi
noncomputable abbrev cnt4 (σ : Dm) (i : Nat) : Dm := { σ with c0 := if 0 < i then 1 else 0, c1 := if 1 < i then 1 else 0 }
theorem pre_spec {L sl fa : Addr} {cd : Value} {qual : Str} {vs : List Value} {ns : List Int} {Q : Flow → Shared → Prop} (hsl : s₀.heap.IsList sl vs.toArray) (hI : IntsAre vs ns) (hz : vs.length ≤ 63) (S : Sp w s₀ ((L, .ns [(k "script", .ref sl)]) :: (L + 1, .cell none) :: []) s) (hA : Rm A 25)
    (h : ∀ (σ : Dm) (m : List (Str × Value)) s', WF σ → σ.rolled = 0 → σ.scs = [] → (∀ b, σ.it b = []) → m.lookup (k "cup") = some (.ref σ.A.cup) → Sp w s₀ (objs σ ++ ((L, .ns m) :: (L + 1, .cell none) :: [])) s' →
      wpAny (model pg w) A (execs (lB.drop 4) (envOfC qual lS L fa cd)) Q E s') : wpAny (model pg w) A (execs lB (envOfC qual lS L fa cd)) Q E s := by
  -- heap
  refine wpAny_execs_cons (asgL S (callN (nmG (v := .ref 218) S (by kernel_rfl) (df1 S (by kernel_rfl) (callNk (nmG (v := .ref 573) S (by kernel_rfl) (callKw0 S (by kernel_rfl) (nmG (v := .int 7 975) S (by kernel_rfl) ⟨⟨_, S⟩, limits_new S (hA.le (by decide)) fun lim limd s1 S1 => ⟨⟨_, S1⟩, heap_new S1 (hA.le (by decide)) fun hp hpd zp s2 S2 => ⟨_, _, L, _, S2, (.tail (.tail (.tail (.tail (.tail (.head)))))), rfl, fun s3 S3 => ?_⟩⟩⟩))))))))
  have S3 := S3.perm (List.perm_middle (l₁ := [_, _, _, _, _]))
  -- cup
  refine wpAny_execs_cons (asgL S3 (dictS S3 fun cup s4 S4 => ?_))
  refine pairTrees_cons_walk (wpAny_Constant_str (slOld (s₀ := s₀) hsl (by lia) (nmL (S4.toks _) (.tail _ (.head _)) rfl (evalPart_none_step (evalPart_some_step (wpAny_Constant_int ⟨_, (ns.take 60).map vi, none, some ((60 : Nat) : Int), rfl, (S4.toks _).toks _, .none, .int _ _, slI hI, fun scr s5 S5 => ?_⟩))))))
  refine pairTrees_cons_walk (wpAny_Constant_str (wpAny_Constant_int ?_))
  have S6 := (S5.toks (s5.toks + 1)).toks (s5.toks + 1 + 1)
  refine pairTrees_cons_walk (wpAny_Constant_str (callN (nmG (v := .ref 551) (S6.toks _) (by kernel_rfl) (df2 (S6.toks _) (by kernel_rfl) (nmL (S6.toks _) (.tail _ (.tail _ (.head _))) rfl (wpAny_Constant_none ⟨⟨_, S6.toks _⟩, counter_new (S6.toks _) (hA.le (by decide)) fun ctr cd' plc emp s7 S7 => ?_⟩))))))
  refine pairTrees_cons_walk (wpAny_Constant_str (List_ (wpAny_items_cons ?_)))
  have S8 := S7.toks (s7.toks + 1)
  refine callM (nmL S8 (.tail _ (.tail _ (.tail _ (.tail _ (.tail _ (.tail _ (.head _))))))) rfl (mtI (f := 187) S8 (.tail _ (.tail _ (.tail _ (.tail _ (.tail _ (.tail _ (.tail _ (.head _)))))))) (.tail _ (.tail _ (.tail _ (.tail _ (.tail _ (.tail _ (.tail _ (.tail _ (.head _))))))))) rfl (by kernel_rfl) (df1 S8 (by kernel_rfl) (wpAny_Constant_int ⟨⟨_, S8.toks _⟩, ?_⟩))))
  refine new_scalar_spec (S8.toks _) (hA.le (by decide)) (.tail _ (.tail _ (.tail _ (.tail _ (.tail _ (.tail _ (.tail _ (.head _)))))))) (.tail _ (.tail _ (.tail _ (.tail _ (.tail _ (.tail _ (.tail _ (.head _)))))))) (.tail (.tail (.tail (.tail (.tail (.tail (.tail (.tail (.head))))))))) fun t0 t0d t0w s9 S9 => wpAny_items_cons ?_
  refine callM (nmL S9 (.tail _ (.tail _ (.tail _ (.tail _ (.tail _ (.tail _ (.tail _ (.tail _ (.tail _ (.head _)))))))))) rfl (mtI (f := 194) S9 (.tail _ (.tail _ (.tail _ (.tail _ (.tail _ (.tail _ (.tail _ (.tail _ (.tail _ (.tail _ (.head _))))))))))) (.tail _ (.tail _ (.tail _ (.tail _ (.tail _ (.tail _ (.tail _ (.tail _ (.tail _ (.tail _ (.tail _ (.head _)))))))))))) rfl (by kernel_rfl) (args0 S9 (by kernel_rfl) ?_)))
  refine new_array_spec S9 (hA.le (by decide)) (.tail _ (.tail _ (.tail _ (.tail _ (.tail _ (.tail _ (.tail _ (.tail _ (.tail _ (.tail _ (.head _))))))))))) (.tail _ (.tail _ (.tail _ (.tail _ (.tail _ (.tail _ (.tail _ (.tail _ (.tail _ (.tail _ (.head _))))))))))) (.tail (.tail (.tail (.tail (.tail (.tail (.tail (.tail (.tail (.tail (.tail (.head)))))))))))) fun t1 t1d t1w t1i s10 S10 => wpAny_items_nil (newL S10 fun thl s11 S11 => ?_)
  refine pairTrees_nil_walk ⟨[_, _, _, _, _, _, _, _, _, _, _, _, _], _, [(k "script", .ref scr), (k "rolled", vi 0), (k "counter", .ref ctr), (k "things", .ref thl)], S11, rfl, rfl, by kernel_rfl, fun s12 S12 => ?_⟩
  refine ⟨_, _, L, _, S12, (.tail (.tail (.tail (.tail (.tail (.tail (.tail (.tail (.tail (.tail (.tail (.tail (.tail (.tail (.head))))))))))))))), rfl, fun s13 S13 => ?_⟩
  have S13 := S13.perm (List.perm_middle (l₁ := [_, _, _, _, _, _, _, _, _, _, _, _, _, _]))
  -- one, other
  refine wpAny_execs_cons (Assign_Tuple (Tuple_ (wpAny_items_cons ?_)))
  refine callM (nmL S13 (.head _) rfl (mtI (f := 194) S13 (.tail _ (.tail _ (.tail _ (.tail _ (.tail _ (.tail _ (.tail _ (.tail _ (.tail _ (.tail _ (.tail _ (.tail _ (.tail _ (.tail _ (.tail _ (.head _)))))))))))))))) (.tail _ (.tail _ (.tail _ (.tail _ (.tail _ (.tail _ (.tail _ (.tail _ (.tail _ (.tail _ (.tail _ (.tail _ (.tail _ (.tail _ (.tail _ (.tail _ (.head _))))))))))))))))) rfl (by kernel_rfl) (args0 S13 (by kernel_rfl) ?_)))
  refine new_array_spec S13 (hA.le (by decide)) (.tail _ (.tail _ (.tail _ (.tail _ (.tail _ (.tail _ (.tail _ (.tail _ (.tail _ (.tail _ (.tail _ (.tail _ (.tail _ (.tail _ (.tail _ (.head _)))))))))))))))) (.tail _ (.tail _ (.tail _ (.tail _ (.tail _ (.tail _ (.tail _ (.tail _ (.tail _ (.tail _ (.tail _ (.tail _ (.tail _ (.tail _ (.tail _ (.head _)))))))))))))))) (.tail (.tail (.tail (.tail (.tail (.tail (.tail (.tail (.tail (.tail (.tail (.tail (.tail (.tail (.tail (.tail (.head))))))))))))))))) fun a1 a1d a1w a1i s14 S14 => wpAny_items_cons ?_
  refine callM (nmL S14 (.tail _ (.tail _ (.tail _ (.tail _ (.head _))))) rfl (mtI (f := 194) S14 (.tail _ (.tail _ (.tail _ (.tail _ (.tail _ (.tail _ (.tail _ (.tail _ (.tail _ (.tail _ (.tail _ (.tail _ (.tail _ (.tail _ (.tail _ (.tail _ (.tail _ (.tail _ (.tail _ (.head _)))))))))))))))))))) (.tail _ (.tail _ (.tail _ (.tail _ (.tail _ (.tail _ (.tail _ (.tail _ (.tail _ (.tail _ (.tail _ (.tail _ (.tail _ (.tail _ (.tail _ (.tail _ (.tail _ (.tail _ (.tail _ (.tail _ (.head _))))))))))))))))))))) rfl (by kernel_rfl) (args0 S14 (by kernel_rfl) ?_)))
  refine new_array_spec S14 (hA.le (by decide)) (.tail _ (.tail _ (.tail _ (.tail _ (.tail _ (.tail _ (.tail _ (.tail _ (.tail _ (.tail _ (.tail _ (.tail _ (.tail _ (.tail _ (.tail _ (.tail _ (.tail _ (.tail _ (.tail _ (.head _)))))))))))))))))))) (.tail _ (.tail _ (.tail _ (.tail _ (.tail _ (.tail _ (.tail _ (.tail _ (.tail _ (.tail _ (.tail _ (.tail _ (.tail _ (.tail _ (.tail _ (.tail _ (.tail _ (.tail _ (.tail _ (.head _)))))))))))))))))))) (.tail (.tail (.tail (.tail (.tail (.tail (.tail (.tail (.tail (.tail (.tail (.tail (.tail (.tail (.tail (.tail (.tail (.tail (.tail (.tail (.head))))))))))))))))))))) fun a2 a2d a2w a2i s15 S15 => wpAny_items_nil (newT S15 fun tp s16 S16 => ?_)
  refine asS2 S16 (.head _) hA.2.2 (.head _) fun s17 S17 => ?_
  refine nmL S17 (.tail _ (.tail _ (.tail _ (.tail _ (.tail _ (.tail _ (.tail _ (.tail _ (.tail _ (.head _)))))))))) rfl (wpAny_Constant_str (sdI (S17.toks _) (.tail (.tail (.tail (.tail (.tail (.tail (.tail (.tail (.tail (.tail (.tail (.tail (.tail (.tail (.tail (.tail (.tail (.tail (.tail (.tail (.tail (.tail (.tail (.head)))))))))))))))))))))))) fun s18 S18 => ?_))
  refine nmL S18 (.tail _ (.tail _ (.tail _ (.tail _ (.tail _ (.tail _ (.tail _ (.tail _ (.tail _ (.head _)))))))))) rfl (wpAny_Constant_str (sdI (S18.toks _) (.tail (.tail (.tail (.tail (.tail (.tail (.tail (.tail (.tail (.tail (.tail (.tail (.tail (.tail (.tail (.tail (.tail (.tail (.tail (.tail (.tail (.tail (.tail (.head)))))))))))))))))))))))) fun s19 S19 => ?_))
  have S19 := (S19.sub (List.sublist_cons_self _ _)).perm (List.perm_middle (l₁ := [_, _, _, _, _, _, _, _]))
  obtain ⟨σ0, h0⟩ : ∃ σ0 : Dm, σ0 = { A := ⟨cup, scr, thl, ctr, cd', plc, emp, hp, hpd, lim, limd, t0, t0d, t0w, t1, t1d, t1w, t1i, a1, a1d, a1w, a2, a2d, a2w⟩, script := ns.take 60, rolled := 0, last := 4, zp := zp, zero := [], c0 := 0, c1 := 0, i1p := a1i, i1 := [], i2p := a2i, i2 := [], refs := [], scs := [] } := ⟨_, rfl⟩
  have S20 : Sp w s₀ (preL σ0 0 0 ++ ((L, .ns [(k "script", .ref sl), (k "heap", .ref hp), (k "cup", .ref cup)]) :: (L + 1, .cell none) :: [])) s19 := by
    subst h0
    exact S19.perm ((List.perm_middle (l₁ := [_, _, _, _, _, _, _, _, _, _, _, _, _, _, _, _, _, _, _, _, _, _])).trans (.cons _ ((List.perm_middle (l₁ := [_, _, _, _, _, _, _, _, _, _, _, _, _, _, _, _, _, _, _, _, _])).trans (.cons _ ((List.perm_middle (l₁ := [_, _, _, _, _, _, _, _, _])).trans (.cons _ ((List.perm_middle (l₁ := [_, _, _, _, _, _, _, _, _, _, _, _, _, _, _, _])).trans (.cons _ ((List.perm_middle (l₁ := [_, _, _, _, _, _, _, _, _, _, _, _, _, _, _, _])).trans (.cons _ ((List.perm_middle (l₁ := [_, _, _, _, _, _, _, _, _, _, _, _, _, _, _, _])).trans (.cons _ ((List.perm_middle (l₁ := [_, _, _, _, _, _, _, _, _, _, _, _, _, _, _, _])).trans (.cons _ ((List.perm_middle (l₁ := [_, _, _, _, _, _, _, _, _, _, _, _, _, _, _, _])).trans (.cons _ ((List.perm_middle (l₁ := [_, _, _, _, _, _, _, _, _, _, _, _, _, _, _, _])).trans (.cons _ ((List.perm_middle (l₁ := [_, _, _, _, _, _, _, _, _, _, _, _, _, _, _, _, _])).trans (.cons _ ((List.perm_middle (l₁ := [_, _, _, _, _, _, _, _, _, _, _, _, _, _, _, _, _])).trans (.cons _ ((List.perm_middle (l₁ := [_, _, _, _, _, _, _, _, _, _, _, _, _])).trans (.cons _ ((List.perm_middle (l₁ := [_, _, _, _, _, _, _, _, _, _, _, _, _])).trans (.cons _ ((List.perm_middle (l₁ := [_, _, _, _, _, _, _, _, _, _, _, _, _])).trans (.cons _ ((List.perm_middle (l₁ := [_, _, _, _, _, _, _, _, _])).trans (.cons _ ((List.perm_middle (l₁ := [_, _, _, _, _, _, _, _, _])).trans (.cons _ ((List.perm_middle (l₁ := [_, _, _, _, _, _, _, _, _])).trans (.cons _ ((List.perm_middle (l₁ := [_, _, _, _, _, _, _, _, _])).trans (.cons _ ((List.perm_middle (l₁ := [_, _, _, _, _])).trans (.cons _ ((List.perm_middle (l₁ := [_, _, _, _, _])).trans (.cons _ ((List.perm_middle (l₁ := [_, _, _, _, _])).trans (.cons _ ((List.perm_middle (l₁ := [_])).trans (.cons _ ((List.perm_middle (l₁ := [_])).trans (.cons _ ((List.perm_middle (l₁ := [_])).trans (.cons _ ((List.perm_middle (l₁ := [_, _, _])).trans (.cons _ ((List.perm_middle (l₁ := [_, _])).trans (.cons _ ((List.perm_middle (l₁ := [_])).trans (.cons _ (.cons _ (.cons _ (.refl _)))))))))))))))))))))))))))))))))))))))))))))))))))))))))
  have eA : σ0.A.cup = cup ∧ σ0.A.ctr = ctr := by subst h0; exact ⟨rfl, rfl⟩
  obtain ⟨eA1, eA2⟩ := eA
  rw [← eA1] at S20
  -- held
  refine wpAny_execs_cons (forP (L := L) S20 hA.2.2 ?_)
  refine wpAny_BinOp (Subscript_ (nmL S20 (mX (.head _)) rfl (wpAny_Constant_str (gdr (S20.toks _) (mP (i := 0) rfl) rfl fun s21 S21 => ?_))))
  refine List_ (wpAny_items_cons (Subscript_ (nmL S21 (mX (.head _)) rfl (wpAny_Constant_str (gd (S21.toks _) (mP (i := 0) rfl) rfl fun v22 s22 ev S22 => ?_)))))
  refine wpAny_items_cons (Subscript_ (nmL S22 (mX (.head _)) rfl (wpAny_Constant_str (gd (S22.toks _) (mP (i := 0) rfl) rfl fun v23 s23 ev2 S23 => ?_))))
  obtain rfl := er_ref ev
  obtain rfl := er_ref ev2
  refine wpAny_items_nil (newL S23 fun el s24 S24 => ?_)
  have S24 := S24.inn
  refine addL S24 (mP (i := 2) rfl) (mX (.head _)) (by simp) fun r s25 S25 => ?_
  have S25 := S25.inn.perm (List.Perm.append_left _ (List.perm_middle (l₁ := [_, _])))
  refine iterL S25 (mX (.tail _ (.head _))) fun I s26 S26 => ?_
  refine ⟨fun i X m R' => X = preL (cnt4 σ0 i) (if 2 < i then 1 else 0) (if 3 < i then 1 else 0) ∧ m.lookup (k "cup") = some (.ref σ0.A.cup) ∧ R' = (r, .list [.ref σ0.A.t0, .ref σ0.A.t1, .ref σ0.A.a1, .ref σ0.A.a2]) :: (el, .list [.ref σ0.A.a1, .ref σ0.A.a2]) :: (L + 1, .cell none) :: [],
    I, _, _, [.ref σ0.A.t0, .ref σ0.A.t1, .ref σ0.A.a1, .ref σ0.A.a2], _, _, _, rfl, Itr.list, S26, ⟨by subst h0; rfl, rfl, rfl⟩, ?_, ?_, ?_⟩
  · rintro i X m R' ⟨rfl, hm, rfl⟩
    exact mX (.tail _ (.head _))
  · rintro I i X R' v m s E ⟨rfl, hm, rfl⟩ hv S27
    have mc : (put m (k "thing") v).lookup (k "cup") = some (.ref σ0.A.cup) := by rw [lookup_put, if_neg (by decide)]; exact hm
    have mt : (put m (k "thing") v).lookup (k "thing") = some v := by rw [lookup_put, if_pos rfl]
    refine wpAny_execs_cons (wpAny_Expr (callM (Subscript_ (nmL S27 (mX (.head _)) mc (wpAny_Constant_str (gdr (S27.toks _) (mP (i := 0) rfl) rfl fun s28 S28 => ?_))))))
    refine mtI (f := 480) S28 (mP (i := 3) rfl) (mP (i := 4) rfl) rfl (by kernel_rfl) (df1 S28 (by kernel_rfl) (nmL S28 (mX (.head _)) mt ⟨⟨_, S28⟩, ?_⟩))
    rcases i with _ | _ | _ | _ | i
    · obtain rfl := er_ref (Option.some.inj hv).symm
      refine hold_spec S28 (hA.le (by decide)) (mP (i := 11) rfl) (Upd.left ⟨12, rfl, rfl⟩) rfl (by kernel_rfl) (by kernel_rfl) rfl fun s29 S29 => ?_
      exact wpAny_execs_nil ⟨.inl rfl, preL (cnt4 σ0 1) (if 2 < 1 then 1 else 0) (if 3 < 1 then 1 else 0), _, _, ⟨rfl, mc, rfl⟩, S29⟩
    · obtain rfl := er_ref (Option.some.inj hv).symm
      refine hold_spec S28 (hA.le (by decide)) (mP (i := 14) rfl) (Upd.left ⟨15, rfl, rfl⟩) rfl (by kernel_rfl) (by kernel_rfl) rfl fun s29 S29 => ?_
      exact wpAny_execs_nil ⟨.inl rfl, preL (cnt4 σ0 2) (if 2 < 2 then 1 else 0) (if 3 < 2 then 1 else 0), _, _, ⟨rfl, mc, rfl⟩, S29⟩
    · obtain rfl := er_ref (Option.some.inj hv).symm
      refine hold_spec S28 (hA.le (by decide)) (mP (i := 18) rfl) (Upd.left ⟨19, rfl, rfl⟩) rfl (by kernel_rfl) (by kernel_rfl) rfl fun s29 S29 => ?_
      exact wpAny_execs_nil ⟨.inl rfl, preL (cnt4 σ0 3) (if 2 < 3 then 1 else 0) (if 3 < 3 then 1 else 0), _, _, ⟨rfl, mc, rfl⟩, S29⟩
    · obtain rfl := er_ref (Option.some.inj hv).symm
      refine hold_spec S28 (hA.le (by decide)) (mP (i := 21) rfl) (Upd.left ⟨22, rfl, rfl⟩) rfl (by kernel_rfl) (by kernel_rfl) rfl fun s29 S29 => ?_
      exact wpAny_execs_nil ⟨.inl rfl, preL (cnt4 σ0 4) (if 2 < 4 then 1 else 0) (if 3 < 4 then 1 else 0), _, _, ⟨rfl, mc, rfl⟩, S29⟩
    · simp at hv
  rintro X m R' s27 ⟨rfl, hm, rfl⟩ S27
  refine h (cnt4 σ0 4) m s27 ?_ (by subst h0; rfl) (by subst h0; rfl) (fun b => by subst h0; cases b <;> rfl) hm ?_
  · subst h0
    exact WF_start rfl rfl (fun b => by cases b <;> rfl) rfl (fun j => by cases j <;> rfl) (by simp; lia)
  · subst h0
    exact S27.sub (.append_left (.cons_cons _ (.cons _ (.cons _ (.refl _)))) _)
end
end Mine
end
section
open PySem PySem.W PySem.Calls PyProof.Rows
set_option maxRecDepth 100000
namespace Mine
set_option linter.unusedVariables false
set_option maxHeartbeats 2000000
section
variable {w : World} {s₀ s : Shared} {W W' X R : Led} {A : Around} {E : Value → Shared → Prop} {env : Env} {σ : Dm} {b : Bool} {l : List Env}
theorem mid_spec {L fa : Addr} {cd : Value} {qual : Str} {m : List (Str × Value)} {Q : Flow → Shared → Prop} (S : Sp w s₀ (objs σ ++ ((L, .ns m) :: (L + 1, .cell none) :: [])) s) (hA : Rm A 25) (hw : WF σ) (hr : σ.rolled = 0) (hsc : σ.scs = []) (hm : m.lookup (k "cup") = some (.ref σ.A.cup))
    (h : ∀ (σ' : Dm) (m' : List (Str × Value)) s', WF σ' → Same σ' → 0 ≤ σ'.rolled → σ'.rolled ≤ 30 → σ'.scs.length ≤ 8 → m'.lookup (k "cup") = some (.ref σ'.A.cup) → Sp w s₀ (objs σ' ++ ((L, .ns m') :: (L + 1, .cell none) :: [])) s' →
      wpAny (model pg w) A (execs (lB.drop 6) (envOfC qual lS L fa cd)) Q E s') : wpAny (model pg w) A (execs (lB.drop 4) (envOfC qual lS L fa cd)) Q E s := by
  have hb : Bd σ 8 30 := ⟨hw, by lia, by lia, by rw [hsc]; simp⟩
  refine wpAny_execs_cons (asgL S (callN (nmG (v := .ref 597) S (by kernel_rfl) (df2 S (by kernel_rfl) (nmL S (mR (.head _)) hm (wpAny_Constant_int ⟨⟨_, S.toks _⟩, ?_⟩))))))
  refine values_nx (n := 4) (S.toks _) (hA.le (by decide)) (by decide) (hb.le (by decide) (by decide)) fun σ1 ds l1 s2 n1 v1 hd hok S2 => ?_
  have A1 := n1.A
  refine ⟨_, _, L, _, S2, uR (.tail .head), rfl, fun s3 S3 => ?_⟩
  have S3 := S3.swap
  have m3 : (put m (k "values") (.ref l1)).lookup (k "cup") = some (.ref σ.A.cup) := by rw [lookup_put, if_neg (by decide)]; exact hm
  have v3 : (put m (k "values") (.ref l1)).lookup (k "values") = some (.ref l1) := by rw [lookup_put, if_pos rfl]
  refine wpAny_execs_cons (forP (L := L) S3 hA.2.2 ?_)
  refine Tuple_ (wpAny_items_cons (Subscript_ (nmL S3 (mR (.head _)) m3 (wpAny_Constant_str (gd (S3.toks _) (cupD' A1) rfl fun v4 s4 ev S4 => ?_)))))
  refine wpAny_items_cons (Subscript_ (nmL S4 (mR (.head _)) m3 (wpAny_Constant_str (gd (S4.toks _) (cupD' A1) rfl fun v5 s5 ev2 S5 => ?_))))
  obtain rfl := er_ref ev
  obtain rfl := er_ref ev2
  refine wpAny_items_nil (newT S5 fun tp s6 S6 => ?_)
  have S6 := S6.inn.swap
  refine iterT S6 (mR (.tail _ (.head _))) fun I s7 S7 => ?_
  refine ⟨fun i X m' R' => ∃ σ2, X = objs σ2 ∧ Nx σ1 σ2 (4 * i) 0 ∧ (0 < i → σ2.tv false = ds.map DV.told) ∧ (1 < i → σ2.tv true = ds.map DV.told) ∧ m'.lookup (k "cup") = some (.ref σ.A.cup) ∧ m'.lookup (k "values") = some (.ref l1) ∧
      R' = (tp, .tup [.ref (σ.A.ar false), .ref (σ.A.ar true)]) :: (l1, .list (ds.map DV.val)) :: (L + 1, .cell none) :: [],
    I, _, _, [.ref (σ.A.ar false), .ref (σ.A.ar true)], _, _, _, rfl, Itr.tup, S7, ⟨σ1, rfl, ⟨n1.wf, rfl, Int.le_refl _, by lia, by lia, fun _ z => z⟩, fun q => by lia, fun q => by lia, m3, v3, rfl⟩, ?_, ?_, ?_⟩
  · rintro i X m' R' ⟨σ2, rfl, _, _, _, _, _, rfl⟩
    exact mR (.tail _ (.head _))
  · rintro I i X R' v m' s E ⟨σ2, rfl, n2, e1, e2, hm', hv', rfl⟩ hv S8
    have mc : (put m' (k "array") v).lookup (k "cup") = some (.ref σ.A.cup) := by rw [lookup_put, if_neg (by decide)]; exact hm'
    have mv : (put m' (k "array") v).lookup (k "values") = some (.ref l1) := by rw [lookup_put, if_neg (by decide)]; exact hv'
    have mt : (put m' (k "array") v).lookup (k "array") = some v := by rw [lookup_put, if_pos rfl]
    have A2 := n2.A.trans A1
    have hi : i < 2 := by have := (List.getElem?_eq_some_iff.mp hv).1; simpa using this
    have b2 : Bd σ2 ds.length 0 := by
      have h1 := n1.n; have h2 := n2.n; have h3 := n1.r1; have h4 := n1.r2; have h5 := n2.r1; have h6 := n2.r2
      have h0 : σ.scs.length = 0 := by rw [hsc]; rfl
      exact ⟨n2.wf, by lia, by lia, by lia⟩
    refine wpAny_execs_cons (wpAny_Expr (callN (nmG (v := .ref 390) S8 (by kernel_rfl) (df3 S8 (by kernel_rfl) (Subscript_ (nmL S8 (mR (.head _)) mc (wpAny_Constant_str (gdr (S8.toks _) (cupD' A2) rfl fun s9 S9 => ?_))))))))
    refine nmL S9 (mR (.head _)) mt (nmL S9 (mR (.head _)) mv ⟨⟨_, S9⟩, ?_⟩)
    rcases i with _ | _ | i
    · obtain rfl := er_ref (Option.some.inj hv).symm
      refine fill_nx (ds := ds) false S9 (hA.le (by decide)) b2 (.tail _ (.tail _ (.tail _ (.head _)))) (fun x hx => n2.ok x (hok x hx)) (by lia) (fun σ3 s10 n3 g1 g2 S10 => ?_) A2
      exact wpAny_execs_nil ⟨.inl rfl, _, _, _, ⟨σ3, rfl, (n2.trans n3).mono (by lia) (by decide), fun _ => g1, fun q => by lia, mc, mv, rfl⟩, S10⟩
    · obtain rfl := er_ref (Option.some.inj hv).symm
      refine fill_nx (ds := ds) true S9 (hA.le (by decide)) b2 (.tail _ (.tail _ (.tail _ (.head _)))) (fun x hx => n2.ok x (hok x hx)) (by lia) (fun σ3 s10 n3 g1 g2 S10 => ?_) A2
      exact wpAny_execs_nil ⟨.inl rfl, _, _, _, ⟨σ3, rfl, (n2.trans n3).mono (by lia) (by decide), fun _ => g2.trans (e1 (by lia)), fun _ => g1, mc, mv, rfl⟩, S10⟩
    · lia
  rintro X m' R' s8 ⟨σ2, rfl, n2, e1, e2, hm', hv', rfl⟩ S8
  have A2 := n2.A.trans A1
  have h1 := n1.n; have h2 := n2.n; have h3 := n1.r1; have h4 := n1.r2; have h5 := n2.r1; have h6 := n2.r2
  have h0 : σ.scs.length = 0 := by rw [hsc]; rfl
  simp only [List.length_cons, List.length_nil] at e1 e2 h2
  exact h σ2 m' s8 n2.wf ((e1 (by lia)).trans (e2 (by lia)).symm) (by lia) (by lia) (by lia) (by rw [A2]; exact hm') (S8.sub (.append_left (.cons_cons _ (.cons _ (.cons _ (.refl _)))) _))
end
end Mine
end
section
open PySem PySem.W PySem.Calls PyProof.Rows
set_option maxRecDepth 100000
namespace Mine
set_option linter.unusedVariables false
set_option maxHeartbeats 2000000
noncomputable def wayL : List Str := [k "push", k "back", k "shift", k "fill", k "unshift", k "turned", k "steps", k "store", k "pop", k "resize"]
noncomputable def inB (xs : List Str) (x : Str) : Bool := (xs.map PyData.str).any fun y => PyData.eqv y (.str x)
section
variable {w : World} {s₀ s : Shared} {W W' X R : Led} {A : Around} {E : Value → Shared → Prop} {env : Env} {σ : Dm} {b : Bool} {l : List Env}
theorem way_at {j : Nat} {t : Tok} {value slice : Expr} {Q : Value → Shared → Prop} (S : Sp w s₀ W s) (hj : j < 10) (h : ∀ t, Q (.str (wayL[j]?.getD (k "push")) t) s)
    (hs : subscripted slice false (.ref 578) (.int j t) = operate [.ref 578, .int j t] (getItem (.ref 578) (.int j t)) := by with_unfolding_all rfl) (hg : ∀ r, letTemporaryGo value (.ref 578) r = pure () := by intro _; with_unfolding_all rfl) :
    wpAny (model pg w) A (subscriptTail value slice (.ref 578) (.int j t)) Q E s := by
  obtain ⟨items, n, h1, h2, h3⟩ : ∃ (items : Array Value) (n : Nat), s.heap.get? 578 = some ⟨.type "tuple", none, .seq items n, #[]⟩ ∧ items.size = 10 ∧ ∀ j < 10, ∃ t, items[j]? = some (.str (wayL[j]?.getD (k "push")) t) := by
    refine ⟨_, _, S.K 578 _ rfl, rfl, fun j hj => ?_⟩
    rcases j with _ | _ | _ | _ | _ | _ | _ | _ | _ | _ | j
    all_goals first | exact ⟨_, rfl⟩ | lia
  obtain ⟨t', ht⟩ := h3 j hj
  refine item_tupleL (j := j) ⟨_, h1, rfl, n, rfl⟩ (by lia) (by lia) ?_ (by rw [Array.getElem?_toList]; exact ht) (h t') hs hg
  unfold seqIndex?
  have : ¬ (j : Int) < 0 := by lia
  simp only [if_neg this]
  rw [if_pos (by simp; lia)]
  simp
theorem strs_reads {h : Heap} : ∀ {vs : List Value} {xs : List Str}, vs.map er = xs.map (fun x => .str x 0) → ReadsAll h vs (xs.map PyData.str) []
  | [], [], _ => .nil
  | v :: vs, x :: xs, e => by
    rw [List.map_cons, List.map_cons] at e
    obtain ⟨e1, e2⟩ := List.cons.inj e
    obtain ⟨t, rfl⟩ := er_str e1
    exact .cons (as := []) (bs := []) (.str _ _) (strs_reads e2)
  | [], _ :: _, e => by cases e
  | _ :: _, [], e => by cases e
theorem inTup {tp : Addr} {xs : List Str} {x : Str} {t : Tok} {c : Bool} {Q : Value → Shared → Prop} (S : Sp w s₀ W s) (hu : A.units + 64 < cLine) (ht : (tp, .tup (xs.map fun x => .str x 0)) ∈ W) (ok1 : (xs.all PyData.strOk && PyData.strOk x) = true) (hc : inB xs x = c) (h : Q (.bool c) s) :
    wpAny (model pg w) A (compareOp .In (.str x t) (.ref tp)) Q E s := by
  obtain ⟨vs, n, e1, e2⟩ := S.tup ht
  rw [Bool.and_eq_true] at ok1
  have hl : ∀ xs : List Str, xs.all PyData.strOk = true → PyData.canLayAll0 (xs.map PyData.str) = true ∧ PyData.depthAll (xs.map PyData.str) ≤ 1 := by
    intro xs
    induction xs with
    | nil => intro _; simp [PyData.canLayAll0, PyData.depthAll]
    | cons y ys ih =>
      intro hy
      rw [List.all_cons, Bool.and_eq_true] at hy
      obtain ⟨i1, i2⟩ := ih hy.2
      rw [List.map_cons, PyData.canLayAll0, PyData.depthAll, i1, PyData.canLay0, hy.1]
      exact ⟨rfl, by simp [PyData.depth]; exact i2⟩
  obtain ⟨l1, l2⟩ := hl xs ok1.1
  have rt : Reads s.heap (.ref tp) (.tuple (xs.map PyData.str)) [] := .tuple (o := { cls := .type "tuple", data := .seq vs.toArray n }) e1 rfl rfl (by simpa using strs_reads e2)
  refine SeqAt.in_tuple_reads rt (.str x t) l1 (by simpa [PyData.canLay0] using ok1.2) (by lia) ?_
  rw [show ((xs.map PyData.str).any fun y => PyData.eqv y (.str x)) = c from hc]
  exact h
inductive Sort4 (ws : Str) : Prop where
  | shrunk (wy : Bool) (e : ws = if wy then k "pop" else k "shift") (h1 : inB [k "pop", k "shift"] ws = true)
  | spliced (c1 c2 : Bool) (e1 : (ws.cps.toList == (k "back").cps.toList) = c1) (e2 : (ws.cps.toList == (k "steps").cps.toList) = c2) (h1 : inB [k "pop", k "shift"] ws = false) (h2 : inB [k "steps", k "turned", k "back"] ws = true)
  | stored (h1 : inB [k "pop", k "shift"] ws = false) (h2 : inB [k "steps", k "turned", k "back"] ws = false) (h3 : (ws.cps.toList == (k "store").cps.toList) = true)
  | grown (c1 : Bool) (e1 : (ws.cps.toList == (k "resize").cps.toList) = c1) (e2 : c1 = false → ws = k "push" ∨ ws = k "unshift" ∨ ws = k "fill") (h1 : inB [k "pop", k "shift"] ws = false) (h2 : inB [k "steps", k "turned", k "back"] ws = false) (h3 : (ws.cps.toList == (k "store").cps.toList) = false)
theorem sort4 {j : Nat} (hj : j < 10) : Sort4 (wayL[j]?.getD (k "push")) ∧ PyData.strOk (wayL[j]?.getD (k "push")) = true := by
  rcases j with _ | _ | _ | _ | _ | _ | _ | _ | _ | _ | j
  · exact ⟨.grown false (by decide +kernel) (fun _ => .inl rfl) (by decide +kernel) (by decide +kernel) (by decide +kernel), by decide +kernel⟩
  · exact ⟨.spliced true false (by decide +kernel) (by decide +kernel) (by decide +kernel) (by decide +kernel), by decide +kernel⟩
  · exact ⟨.shrunk false rfl (by decide +kernel), by decide +kernel⟩
  · exact ⟨.grown false (by decide +kernel) (fun _ => .inr (.inr rfl)) (by decide +kernel) (by decide +kernel) (by decide +kernel), by decide +kernel⟩
  · exact ⟨.grown false (by decide +kernel) (fun _ => .inr (.inl rfl)) (by decide +kernel) (by decide +kernel) (by decide +kernel), by decide +kernel⟩
  · exact ⟨.spliced false false (by decide +kernel) (by decide +kernel) (by decide +kernel) (by decide +kernel), by decide +kernel⟩
  · exact ⟨.spliced false true (by decide +kernel) (by decide +kernel) (by decide +kernel) (by decide +kernel), by decide +kernel⟩
  · exact ⟨.stored (by decide +kernel) (by decide +kernel) (by decide +kernel), by decide +kernel⟩
  · exact ⟨.shrunk true rfl (by decide +kernel), by decide +kernel⟩
  · exact ⟨.grown true (by decide +kernel) (fun q => by cases q) (by decide +kernel) (by decide +kernel) (by decide +kernel), by decide +kernel⟩
  · lia
end
end Mine
end
section
open PySem PySem.W PySem.Calls PyProof.Rows
set_option maxRecDepth 100000
namespace Mine
set_option linter.unusedVariables false
set_option maxHeartbeats 4000000
section
variable {w : World} {s₀ s : Shared} {W W' X R : Led} {A : Around} {E : Value → Shared → Prop} {env : Env} {σ : Dm} {b : Bool} {l : List Env}
theorem Nx.refl {σ : Dm} {a : Nat} {r : Int} (h : WF σ) (hr : 0 ≤ r) : Nx σ σ a r := ⟨h, rfl, Int.le_refl _, by lia, by lia, fun _ z => z⟩
theorem turns_spec {L fa : Addr} {cd : Value} {qual : Str} {m : List (Str × Value)} {Q : Flow → Shared → Prop} (S : Sp w s₀ (objs σ ++ ((L, .ns m) :: (L + 1, .cell none) :: [])) s) (hA : Rm A 25) (hfr : A.frames = some [envOfC qual lS L fa cd])
    (hw : WF σ) (hs : Same σ) (r0 : 0 ≤ σ.rolled) (r1 : σ.rolled ≤ 30) (hn : σ.scs.length ≤ 8) (hm : m.lookup (k "cup") = some (.ref σ.A.cup))
    (h : ∀ (σ' : Dm) (m' : List (Str × Value)) s', Bd σ' 0 0 → m'.lookup (k "cup") = some (.ref σ'.A.cup) → Sp w s₀ (objs σ' ++ ((L, .ns m') :: (L + 1, .cell none) :: [])) s' →
      wpAny (model pg w) A (execs (lB.drop 7) (envOfC qual lS L fa cd)) Q E s') : wpAny (model pg w) A (execs (lB.drop 6) (envOfC qual lS L fa cd)) Q E s := by
  have hu : A.units + 64 < cLine := Rm.u64 (n := 0) (hA.le (by decide))
  refine wpAny_execs_cons (forP (L := L) S hA.2.2 ?_)
  refine callN (nmB (v := .type "range") S (by kernel_rfl) (by kernel_rfl) (ty1 (wpAny_BinOp (wpAny_Constant_int (callN (nmG (v := .ref 585) (S.toks _) (by kernel_rfl) (df2 (S.toks _) (by kernel_rfl) (nmL (S.toks _) (mR (.head _)) hm (wpAny_Constant_int ⟨⟨_, (S.toks _).toks _⟩, ?_⟩)))))))))
  refine roll_nx ((S.toks _).toks _) (hA.le (by decide)) (by decide) ⟨hw, r0, by lia, by lia⟩ fun σ1 i t s2 n1 v1 i0 i1 S2 => PyProof.Rows.add_int ?_
  obtain ⟨n, rfl⟩ := Int.eq_ofNat_of_zero_le i0
  rw [show (10 : Int) + n = ((10 + n : Nat) : Int) by push_cast; rfl]
  refine mkRange1 (S2.toks _) fun rg s3 S3 => ?_
  have S3 := S3.inn.swap
  have A1 := n1.A
  refine iterRg S3 (mR (.tail _ (.head _))) (by lia) fun I s4 S4 => ?_
  refine ⟨fun i X m' R' => ∃ σ2, X = objs σ2 ∧ Nx σ1 σ2 (40 * i) (60 * i) ∧ Same σ2 ∧ m'.lookup (k "cup") = some (.ref σ.A.cup) ∧ R' = (rg, .raw (rgP 0 (10 + n))) :: (L + 1, .cell none) :: [],
    I, _, _, rgV 0 (10 + n), _, _, _, rfl, Itr.range, S4, ⟨σ1, rfl, .refl n1.wf (by lia), by show σ1.tv false = σ1.tv true; rw [v1, v1]; exact hs, hm, rfl⟩, ?_, ?_, ?_⟩
  · rintro i X m' R' ⟨σ2, rfl, _, _, _, rfl⟩
    simp
  · rintro I i X R' v m' s E ⟨σ2, rfl, n2, hs2, hm', rfl⟩ hv S5
    have hi : i < 10 + n := by have := (List.getElem?_eq_some_iff.mp hv).1; unfold rgV at this; simpa using this
    unfold rgV at hv
    rw [List.getElem?_map, List.getElem?_range hi] at hv
    obtain ⟨t5, rfl⟩ := er_int (Option.some.inj hv).symm
    rw [Nat.zero_add] at S5
    have A2 := n2.A.trans A1
    have b2 : Bd σ2 100 100 := by
      have h1 := n1.n; have h2 := n2.n; have h3 := n1.r1; have h4 := n1.r2; have h5 := n2.r1; have h6 := n2.r2
      exact ⟨n2.wf, by lia, by lia, by lia⟩
    have mc : (put m' (k "turn") (.int i t5)).lookup (k "cup") = some (.ref σ.A.cup) := by rw [lookup_put, if_neg (by decide)]; exact hm'
    have mt : (put m' (k "turn") (.int i t5)).lookup (k "turn") = some (.int i t5) := by rw [lookup_put, if_pos rfl]
    generalize hmt : put m' (k "turn") (.int i t5) = mT at S5 mc mt
    -- way
    refine cutN (fun s => ∃ σ3 j t, j < 10 ∧ Nx σ2 σ3 0 1 ∧ Same σ3 ∧ Sp w s₀ (objs σ3 ++ ((L, .ns (put mT (k "way") (.str (wayL[j]?.getD (k "push")) t))) :: I :: (rg, .raw (rgP 0 (10 + n))) :: (L + 1, .cell none) :: [])) s) ?_ ?_
    · refine asgL S5 (Subscript_ (nmG (v := .ref 578) S5 (by kernel_rfl) (IfExp_ (wpAny_isTrue_Compare1 (nmL S5 (mR (.head _)) mt (wpAny_Constant_int (PyProof.Rows.lt_int (wpAny_truthy_bool ?_))))))))
      have S6 := S5.toks (s.toks + 1)
      by_cases q : i < 10
      · rw [decide_eq_true (by lia)]
        rw [if_pos rfl]
        exact nmL S6 (mR (.head _)) mt (way_at S6 q fun t => ⟨_, _, L, _, S6, uR .head, rfl, fun s7 S7 => ⟨rfl, σ2, i, t, q, .refl n2.wf (by decide), hs2, S7⟩⟩)
      · rw [decide_eq_false (by lia)]
        rw [if_neg Bool.false_ne_true]
        refine callN (nmG (v := .ref 585) S6 (by kernel_rfl) (df2 S6 (by kernel_rfl) (nmL S6 (mR (.head _)) mc (wpAny_Constant_int ⟨⟨_, S6.toks _⟩, ?_⟩))))
        refine roll_nx (S6.toks _) (hA.le (by decide)) (by decide) (b2.le (by decide) (by decide)) (fun σ3 jj t7 s7 n3 v3 j0 j1 S7 => ?_) A2
        obtain ⟨j, rfl⟩ := Int.eq_ofNat_of_zero_le j0
        exact way_at S7 (by lia) fun t => ⟨_, _, L, _, S7, uR .head, rfl, fun s8 S8 => ⟨rfl, σ3, j, t, by lia, n3, by show σ3.tv false = σ3.tv true; rw [v3, v3]; exact hs2, S8⟩⟩
    rintro s6 ⟨σ3, j, t6, hj, n3, hs3, S6⟩
    obtain ⟨hsort, hok⟩ := sort4 hj
    generalize wayL[j]?.getD (k "push") = ws at S6 hsort hok
    have A3 := n3.A.trans A2
    have b3 : Bd σ3 100 99 := Bd.nx (a' := 0) (r' := 1) b2 n3
    have mc6 : (put mT (k "way") (.str ws t6)).lookup (k "cup") = some (.ref σ3.A.cup) := by rw [lookup_put, if_neg (by decide), A3]; exact mc
    have mw6 : (put mT (k "way") (.str ws t6)).lookup (k "way") = some (.str ws t6) := by rw [lookup_put, if_pos rfl]
    generalize hmW : put mT (k "way") (.str ws t6) = mW at S6 mc6 mw6
    -- is_right
    refine cutN (fun s => ∃ σ4, Nx σ3 σ4 40 50 ∧ Same σ4 ∧ Sp w s₀ (objs σ4 ++ ((L, .ns (put mW (k "is_right") (.bool true))) :: I :: (rg, .raw (rgP 0 (10 + n))) :: (L + 1, .cell none) :: [])) s) ?_ ?_
    · refine wpAny_If (wpAny_isTrue_Compare1 (nmL S6 (mR (.head _)) mw6 (Tuple_ (wpAny_items_cons (wpAny_Constant_str (wpAny_items_cons (wpAny_Constant_str (wpAny_items_nil (newT ((S6.toks _).toks _) fun tp s7 S7 => ?_)))))))))
      cases hsort with
      | shrunk wy e h1 =>
        refine inTup (xs := [k "pop", k "shift"]) S7 hu (.head _) (by rw [hok]; decide +kernel) h1 (wpAny_truthy_bool ?_)
        rw [if_pos rfl]
        have S8 := S7.sub (List.sublist_cons_self _ _)
        refine wpAny_execs_cons (asgL S8 (callN (nmG (v := .ref 644) S8 (by kernel_rfl) (df2 S8 (by kernel_rfl) (nmL S8 (mR (.head _)) mc6 (nmL S8 (mR (.head _)) mw6 ⟨⟨_, S8⟩, ?_⟩))))))
        subst e
        refine shrunk_spec S8 (hA.le (by decide)) (b3.le (by decide) (by decide)) hs3 fun σ4 s9 n4 hs4 S9 => ⟨_, _, L, _, S9, uR .head, rfl, fun s10 S10 => ?_⟩
        exact wpAny_execs_nil ⟨rfl, σ4, n4.mono (by decide) (by decide), hs4, S10⟩
      | spliced c1 c2 e1 e2 h1 h2 =>
        refine inTup (xs := [k "pop", k "shift"]) S7 hu (.head _) (by rw [hok]; decide +kernel) h1 (wpAny_truthy_bool ?_)
        rw [if_neg Bool.false_ne_true]
        have S8 := S7.sub (List.sublist_cons_self _ _)
        refine wpAny_execs_cons (wpAny_If (wpAny_isTrue_Compare1 (nmL S8 (mR (.head _)) mw6 (Tuple_ (wpAny_items_cons (wpAny_Constant_str (wpAny_items_cons (wpAny_Constant_str (wpAny_items_cons (wpAny_Constant_str (wpAny_items_nil (newT (((S8.toks _).toks _).toks _) fun tq s9 S9 => ?_))))))))))))
        refine inTup (xs := [k "steps", k "turned", k "back"]) S9 hu (.head _) (by rw [hok]; decide +kernel) h2 (wpAny_truthy_bool ?_)
        rw [if_pos rfl]
        have S10 := S9.sub (List.sublist_cons_self _ _)
        refine wpAny_execs_cons (asgL S10 (callN (nmG (v := .ref 658) S10 (by kernel_rfl) (df2 S10 (by kernel_rfl) (nmL S10 (mR (.head _)) mc6 (nmL S10 (mR (.head _)) mw6 ⟨⟨_, S10⟩, ?_⟩))))))
        refine spliced_spec e1 e2 S10 (hA.le (by decide)) (b3.le (by decide) (by decide)) hs3 fun σ4 s11 n4 hs4 S11 => ⟨_, _, L, _, S11, uR .head, rfl, fun s12 S12 => ?_⟩
        exact wpAny_execs_nil (wpAny_execs_nil ⟨rfl, σ4, n4, hs4, S12⟩)
      | stored h1 h2 h3 =>
        refine inTup (xs := [k "pop", k "shift"]) S7 hu (.head _) (by rw [hok]; decide +kernel) h1 (wpAny_truthy_bool ?_)
        rw [if_neg Bool.false_ne_true]
        have S8 := S7.sub (List.sublist_cons_self _ _)
        refine wpAny_execs_cons (wpAny_If (wpAny_isTrue_Compare1 (nmL S8 (mR (.head _)) mw6 (Tuple_ (wpAny_items_cons (wpAny_Constant_str (wpAny_items_cons (wpAny_Constant_str (wpAny_items_cons (wpAny_Constant_str (wpAny_items_nil (newT (((S8.toks _).toks _).toks _) fun tq s9 S9 => ?_))))))))))))
        refine inTup (xs := [k "steps", k "turned", k "back"]) S9 hu (.head _) (by rw [hok]; decide +kernel) h2 (wpAny_truthy_bool ?_)
        rw [if_neg Bool.false_ne_true]
        have S10 := S9.sub (List.sublist_cons_self _ _)
        refine wpAny_execs_cons (asgL S10 (IfExp_ (wpAny_isTrue_Compare1 (nmL S10 (mR (.head _)) mw6 (wpAny_Constant_str (eqS h3 (wpAny_truthy_bool ?_)))))))
        rw [if_pos rfl]
        have S11 := S10.toks (s9.toks + 1)
        refine callN (nmG (v := .ref 651) S11 (by kernel_rfl) (df1 S11 (by kernel_rfl) (nmL S11 (mR (.head _)) mc6 ⟨⟨_, S11⟩, ?_⟩)))
        refine stored_spec S11 (hA.le (by decide)) (b3.le (by decide) (by decide)) hs3 fun σ4 s12 n4 hs4 S12 => ⟨_, _, L, _, S12, uR .head, rfl, fun s13 S13 => ?_⟩
        exact wpAny_execs_nil (wpAny_execs_nil ⟨rfl, σ4, n4.mono (by decide) (by decide), hs4, S13⟩)
      | grown c1 e1 e2 h1 h2 h3 =>
        refine inTup (xs := [k "pop", k "shift"]) S7 hu (.head _) (by rw [hok]; decide +kernel) h1 (wpAny_truthy_bool ?_)
        rw [if_neg Bool.false_ne_true]
        have S8 := S7.sub (List.sublist_cons_self _ _)
        refine wpAny_execs_cons (wpAny_If (wpAny_isTrue_Compare1 (nmL S8 (mR (.head _)) mw6 (Tuple_ (wpAny_items_cons (wpAny_Constant_str (wpAny_items_cons (wpAny_Constant_str (wpAny_items_cons (wpAny_Constant_str (wpAny_items_nil (newT (((S8.toks _).toks _).toks _) fun tq s9 S9 => ?_))))))))))))
        refine inTup (xs := [k "steps", k "turned", k "back"]) S9 hu (.head _) (by rw [hok]; decide +kernel) h2 (wpAny_truthy_bool ?_)
        rw [if_neg Bool.false_ne_true]
        have S10 := S9.sub (List.sublist_cons_self _ _)
        refine wpAny_execs_cons (asgL S10 (IfExp_ (wpAny_isTrue_Compare1 (nmL S10 (mR (.head _)) mw6 (wpAny_Constant_str (eqS h3 (wpAny_truthy_bool ?_)))))))
        rw [if_neg Bool.false_ne_true]
        have S11 := S10.toks (s9.toks + 1)
        refine callN (nmG (v := .ref 637) S11 (by kernel_rfl) (df2 S11 (by kernel_rfl) (nmL S11 (mR (.head _)) mc6 (nmL S11 (mR (.head _)) mw6 ⟨⟨_, S11⟩, ?_⟩))))
        refine grown_spec e2 S11 (hA.le (by decide)) hfr (fun e he => by obtain rfl := List.mem_singleton.mp he; exact ⟨rfl, L, _, rfl, .head _⟩) (b3.le (by decide) (by decide)) hs3 e1 fun σ4 s12 n4 hs4 S12 => ⟨_, _, L, _, S12, uR .head, rfl, fun s13 S13 => ?_⟩
        exact wpAny_execs_nil (wpAny_execs_nil ⟨rfl, σ4, n4.mono (by decide) (by decide), hs4, S13⟩)
    rintro s10 ⟨σ4, n4, hs4, S10⟩
    have A4 := n4.A.trans A3
    have mc10 : (put mW (k "is_right") (.bool true)).lookup (k "cup") = some (.ref σ.A.cup) := by rw [lookup_put, if_neg (by decide), mc6, A3]
    have mi10 : (put mW (k "is_right") (.bool true)).lookup (k "is_right") = some (.bool true) := by rw [lookup_put, if_pos rfl]
    generalize hmI : put mW (k "is_right") (.bool true) = mI at S10 mc10 mi10
    refine wpAny_execs_cons (wpAny_If (wpAny_isTrue_BoolOp (wpAny_allTrue_Or_cons (wpAny_isTrue_Not (wpAny_isTrue_value (nmL S10 (mR (.head _)) mi10 (wpAny_truthy_bool ?_)))))))
    refine wpAny_allTrue_Or_cons (wpAny_isTrue_Compare1 (callN (nmG (v := .ref 602) S10 (by kernel_rfl) (df1 S10 (by kernel_rfl) (callN (nmG (v := .ref 395) S10 (by kernel_rfl) (df1 S10 (by kernel_rfl) (Subscript_ (nmL S10 (mR (.head _)) mc10 (wpAny_Constant_str (gdr (S10.toks _) (cupD' A4) rfl fun s11 S11 => ?_)))))))))))
    refine ⟨⟨_, S11⟩, arrvals_nx false S11 (hA.le (by decide)) n4.wf (fun d1 a1 s12 hd1 ok1 ln1 S12 => ⟨⟨_, S12⟩, ?_⟩) A4⟩
    refine told_spec S12 (hA.le (by decide)) (.head _) ok1 (by lia) fun us u1 s13 hus S13 => ?_
    have mF13 : (L, SO.ns mI) ∈ objs σ4 ++ ((u1, .list (us.map Tv.val)) :: ((us.flatMap Tv.objs).reverse ++ ((a1, .list (d1.map DV.val)) :: (L, .ns mI) :: I :: (rg, .raw (rgP 0 (10 + n))) :: (L + 1, .cell none) :: []))) :=
      mR (.tail _ (List.mem_append_right _ (.tail _ (.head _))))
    refine callN (nmG (v := .ref 602) S13 (by kernel_rfl) (df1 S13 (by kernel_rfl) (callN (nmG (v := .ref 395) S13 (by kernel_rfl) (df1 S13 (by kernel_rfl) (Subscript_ (nmL S13 mF13 mc10 (wpAny_Constant_str (gdr (S13.toks _) (cupD' A4) rfl fun s14 S14 => ?_)))))))))
    refine ⟨⟨_, S14⟩, arrvals_nx true S14 (hA.le (by decide)) n4.wf (fun d2 a2 s15 hd2 ok2 ln2 S15 => ⟨⟨_, S15⟩, ?_⟩) A4⟩
    refine told_spec S15 (hA.le (by decide)) (.head _) ok2 (by lia) fun xs x1 s16 hxs S16 => ?_
    refine neTold S16 hu (xs := us) (ys := xs) (mR (.tail _ (List.mem_append_right _ (.tail _ (.head _))))) (fun p hp => mR (.tail _ (List.mem_append_right _ (.tail _ (.tail _ (List.mem_append_left _ (List.mem_reverse.mpr hp))))))) (mR (.head _)) (fun p hp => mR (.tail _ (List.mem_append_left _ (List.mem_reverse.mpr hp)))) (wpAny_truthy_bool ?_)
    rw [decide_eq_true (show us.map Tv.t = xs.map Tv.t by rw [hus, hxs, hd1, hd2]; exact hs4)]
    refine wpAny_allTrue_Or_nil ?_
    refine wpAny_execs_nil (wpAny_execs_nil ⟨.inl rfl, _, _, _, ⟨σ4, rfl, (n2.trans (n3.trans n4)).mono (by lia) (by push_cast; lia), hs4, mc10, rfl⟩, S16.sub (.append_left (.cons _ (sApp (.cons _ (.cons _ (sApp (.cons _ (.refl _))))))) _)⟩)
  rintro X m' R' s6 ⟨σ2, rfl, n2, hs2, hm', rfl⟩ S6
  have h1 := n1.n; have h2 := n2.n; have h3 := n1.r1; have h4 := n1.r2; have h5 := n2.r1; have h6 := n2.r2
  unfold rgV at h2 h6
  rw [List.length_map, List.length_range] at h2 h6
  exact h σ2 m' s6 ⟨n2.wf, by lia, by lia, by lia⟩ (by rw [n2.A, A1]; exact hm') (S6.sub (.append_left (.cons_cons _ (.cons _ (.refl _))) _))
end
end Mine
end
section
open PySem PySem.W PySem.Calls PyProof.Rows
set_option maxRecDepth 100000
namespace Mine
set_option linter.unusedVariables false
set_option maxHeartbeats 4000000
section
variable {w : World} {s₀ s : Shared} {W W' X R : Led} {A : Around} {E : Value → Shared → Prop} {env : Env} {σ σ' : Dm} {b : Bool} {l : List Env}
theorem tgCount {j : Bool} {Q : Value → Shared → Prop} (S : Sp w s₀ (objs σ ++ R) s) (h : ∀ t s', Sp w s₀ (objs σ ++ R) s' → Q (.int (σ.cj j) t) s') {ex : Bool} : wpAny (model pg w) A (getAttr (.ref (σ.A.tg j)) (k "count") ex) Q E s := by
  cases j with
  | false => exact getA S (mF (i := 11) rfl) (mF (i := 12) rfl) rfl (by kernel_rfl) fun v s' ev S' => by obtain ⟨t, rfl⟩ := er_int ev; exact h _ _ S'
  | true => exact getA S (mF (i := 14) rfl) (mF (i := 15) rfl) rfl (by kernel_rfl) fun v s' ev S' => by obtain ⟨t, rfl⟩ := er_int ev; exact h _ _ S'
theorem bm1 {id : String} {first : List Value} {pos : Pos} {a : Expr} {Q : Value → Shared → Prop} (h : wpAny (model pg w) A (eval a env) (fun v s₁ => wpAny (model pg w) A (call (.builtin id) (first ++ [v])) Q E s₁) E s)
    (he : starEach [a] env = (false, eval a env) :: starEach [] env := by rfl) :
    wpAny (model pg w) A (callWith pos (.builtin id) first (backTo pos (starEach [a] env)) []) Q E s := by
  have h2 : wpAny (model pg w) A (spliced (backTo pos (starEach [a] env))) (fun vs s₁ => wpAny (model pg w) A (call (.builtin id) (first ++ vs)) Q E s₁) E s := wpAny_items_cons (wpAny_mono h (fun _ _ z => wpAny_items_nil z) fun _ _ z => z) he
  rw [he] at h2 ⊢
  exact Calls.callWith_builtin (by rfl) (Calls.evalArgs_plain h2)
theorem told_isJ {j : Bool} (x : DV) : decide (x.told = .ref (if j then 2 else 1)) = isJ j x := by
  cases x with
  | rf f =>
    obtain ⟨r, rd, q⟩ := f
    cases j <;> cases q <;> simp [DV.told, isJ]
  | _ => simp [DV.told, isJ]
theorem things_at {i : Nat} {v : Value} (hv : ([.ref σ.A.t0, .ref σ.A.t1] : List Value)[i]? = some (er v)) : ∃ j : Bool, v = .ref (σ.A.tg j) ∧ ([false, true] : List Bool)[i]? = some j := by
  rcases i with _ | _ | i
  · exact ⟨false, er_ref (Option.some.inj hv).symm, rfl⟩
  · exact ⟨true, er_ref (Option.some.inj hv).symm, rfl⟩
  · simp at hv
theorem Fr2.vl {ts : List It} (F : Fr2 σ ts σ') (hw : WF σ) : ∀ b, ∀ o ∈ σ.it b, σ'.has o ∧ σ'.vl o = σ.vl o := fun b o ho => by
  cases o with
  | none => exact ⟨fun t q => (by cases q), rfl⟩
  | some t =>
    obtain ⟨c, hc, hv⟩ := F.kept b t ho
    exact ⟨fun t' q => (by cases q; exact ⟨c, hc⟩), by rw [vl_at hc]; exact hv⟩
theorem end_spec {L fa : Addr} {cd : Value} {qual : Str} {m : List (Str × Value)} {Q : Flow → Shared → Prop} (S : Sp w s₀ (objs σ ++ ((L, .ns m) :: (L + 1, .cell none) :: [])) s) (hA : Rm A 25)
    (hb : Bd σ 0 0) (hm : m.lookup (k "cup") = some (.ref σ.A.cup)) (h : ∀ W s', Sp w s₀ W s' → Q (.ret (.bool true)) s') : wpAny (model pg w) A (execs (lB.drop 7) (envOfC qual lS L fa cd)) Q E s := by
  have hu : A.units + 64 < cLine := Rm.u64 (n := 0) (hA.le (by decide))
  -- settle
  refine wpAny_execs_cons (wpAny_Expr (callM (Subscript_ (nmL S (mR (.head _)) hm (wpAny_Constant_str (gdr (S.toks _) (cupD' rfl) rfl fun s1 S1 => ?_))))))
  refine mtI (f := 534) S1 (mF (i := 3) rfl) (mF (i := 4) rfl) rfl (by kernel_rfl) (df1 S1 (by kernel_rfl) (wpAny_Constant_int ⟨⟨_, S1.toks _⟩, ?_⟩))
  refine settle_spec (S1.toks _) (hA.le (by decide)) hb fun σ' s2 F S2 => ?_
  have A2 : σ'.A = σ.A := F.A
  have hk := F.vl hb.wf
  have hlen : ∀ b, (σ'.it b).length ≤ 7 := fun b => by rw [F.it]; exact hb.wf.len b
  -- held
  refine wpAny_execs_cons (wpAny_Assign_Name ?_)
  refine callN (nmG (v := .ref 602) S2 (by kernel_rfl) (df1 S2 (by kernel_rfl) (wpAny_BinOp (callN (nmG (v := .ref 395) S2 (by kernel_rfl) (df1 S2 (by kernel_rfl) (Subscript_ (nmL S2 (mR (.head _)) hm (wpAny_Constant_str (gdr (S2.toks _) (cupD' A2) rfl fun s3 S3 => ?_))))))))))
  rw [← A2]
  refine ⟨⟨_, S3⟩, array_values_spec (b := false) S3 (hA.le (by decide)) (fun o ho => (hk false o (by rw [← F.it]; exact ho)).1) (by have := hlen false; lia) fun l1 s4 S4 => ?_⟩
  refine callN (nmG (v := .ref 395) S4 (by kernel_rfl) (df1 S4 (by kernel_rfl) (Subscript_ (nmL S4 (mR (.tail _ (.head _))) (by rw [hm, A2]) (wpAny_Constant_str (gdr (S4.toks _) (cupD' rfl) rfl fun s5 S5 => ?_))))))
  refine ⟨⟨_, S5⟩, array_values_spec (b := true) S5 (hA.le (by decide)) (fun o ho => (hk true o (by rw [← F.it]; exact ho)).1) (by have := hlen true; lia) fun l2 s6 S6 => ?_⟩
  refine addL S6 (mR (.tail _ (.head _))) (mR (.head _)) (by have h1 := hlen false; have h2 := hlen true; rw [List.length_map, List.length_map]; lia) fun r s7 S7 => ?_
  have S7 := S7.inn
  rw [← List.map_append, show ((σ'.it false ++ σ'.it true).map fun o => (σ'.vl o).val) = ((σ'.it false ++ σ'.it true).map σ'.vl).map DV.val by rw [List.map_map]; rfl] at S7
  have hvl : (σ'.it false ++ σ'.it true).map σ'.vl = (σ.it false ++ σ.it true).map σ.vl := by
    rw [F.it, F.it]
    refine List.map_congr_left fun o ho => ?_
    rcases List.mem_append.mp ho with ho | ho
    · exact (hk _ o ho).2
    · exact (hk _ o ho).2
  have okd : ∀ x ∈ (σ'.it false ++ σ'.it true).map σ'.vl, x.ok σ' := fun x hx => by
    rw [hvl] at hx
    obtain ⟨o, ho, rfl⟩ := List.mem_map.mp hx
    refine ok_of ?_ F.refs
    rcases List.mem_append.mp ho with ho | ho
    · exact hb.wf.okv _ o ho
    · exact hb.wf.okv _ o ho
  refine ⟨⟨_, S7⟩, told_spec S7 (hA.le (by decide)) (.head _) okd (by have h1 := hlen false; have h2 := hlen true; simp; lia) fun ts hl s8 hts S8 => ?_⟩
  have S9 := S8.sub (W' := objs σ' ++ ((hl, .list (ts.map Tv.val)) :: ((ts.flatMap Tv.objs).reverse ++ ((L, .ns m) :: (L + 1, .cell none) :: [])))) (.append_left (.cons_cons _ (.append_left (.cons _ (.cons _ (.cons _ (.refl _)))) _)) _)
  refine stC S9 (uR (.tail (Upd.right (.tail .head)))) fun s10 S10 => ?_
  have hm' : m.lookup (k "cup") = some (.ref σ'.A.cup) := by rw [hm, A2]
  have mF10 : (L, SO.ns m) ∈ objs σ' ++ ((hl, .list (ts.map Tv.val)) :: ((ts.flatMap Tv.objs).reverse ++ ((L, .ns m) :: (L + 1, .cell (some (.ref hl))) :: []))) := mR (.tail _ (List.mem_append_right _ (.head _)))
  -- the two lists
  refine wpAny_execs_cons (wpAny_Return_some (wpAny_Compare1 ?_))
  refine compR (s₀ := s₀) (fun i acc X R' => X = objs σ' ∧ R' = (hl, .list (ts.map Tv.val)) :: ((ts.flatMap Tv.objs).reverse ++ ((L, .ns m) :: (L + 1, .cell (some (.ref hl))) :: [])) ∧ acc = ([false, true].take i).map fun j => vi (σ'.cj j - 1))
    rfl (by decide) rfl (by decide) rfl hA.2.2 ?_
  refine Subscript_ (nmL S10 mF10 hm' (wpAny_Constant_str (gdr (S10.toks _) (cupD' rfl) rfl fun s11 S11 => ?_)))
  refine ⟨σ'.A.thl, [.ref σ'.A.t0, .ref σ'.A.t1], _, _, rfl, S11, ⟨rfl, rfl, rfl⟩, by simp, ?_, ?_, ?_⟩
  · rintro i acc X R' ⟨rfl, rfl, rfl⟩
    exact ⟨mF (i := 2) rfl, by rw [List.length_map, List.length_take]; lia⟩
  · rintro C D I i acc X R' v m' s E ⟨rfl, rfl, rfl⟩ hv hmm S12
    refine wpAny_pure ?_
    rw [if_pos rfl]
    obtain ⟨j, rfl, hj⟩ := things_at hv
    refine wpAny_BinOp (Attribute_any_ (nmL S12 (mR (.head _)) hmm (tgCount S12 fun t13 s13 S13 => wpAny_Constant_int (PyProof.Rows.sub_int ?_))))
    refine ⟨_, _, ⟨rfl, rfl, ?_⟩, (S13.toks _).toks _⟩
    rw [List.take_add_one, hj, List.map_append]; rfl
  rintro acc X R' c1 s12 ⟨rfl, rfl, rfl⟩ S12
  refine compR (s₀ := s₀) (fun i acc X R' => X = objs σ' ∧ R' = (c1, .list (([false, true] : List Bool).map fun j => vi (σ'.cj j - 1))) :: (hl, .list (ts.map Tv.val)) :: ((ts.flatMap Tv.objs).reverse ++ ((L, .ns m) :: (L + 1, .cell (some (.ref hl))) :: [])) ∧
      acc = ([false, true].take i).map fun j => vi ((ts.map Tv.t).countP fun t => decide (t = .ref (if j then 2 else 1)) : Nat))
    rfl (by decide) rfl (by decide) rfl hA.2.2 ?_
  refine Subscript_ (nmL S12 (mR (.tail _ (.tail _ (List.mem_append_right _ (.head _))))) hm' (wpAny_Constant_str (gdr (S12.toks _) (cupD' rfl) rfl fun s13 S13 => ?_)))
  refine ⟨σ'.A.thl, [.ref σ'.A.t0, .ref σ'.A.t1], _, _, rfl, S13, ⟨rfl, rfl, rfl⟩, by simp, ?_, ?_, ?_⟩
  · rintro i acc X R' ⟨rfl, rfl, rfl⟩
    exact ⟨mF (i := 2) rfl, by rw [List.length_map, List.length_take]; lia⟩
  · rintro C D I i acc X R' v m' s E ⟨rfl, rfl, rfl⟩ hv hmm S14
    refine wpAny_pure ?_
    rw [if_pos rfl]
    obtain ⟨j, rfl, hj⟩ := things_at hv
    refine callM (nmC (c := L + 1) (v := .ref hl) S14 (mR (.tail _ (.tail _ (.tail _ (.tail _ (.tail _ (List.mem_append_right _ (.tail _ (.head _)))))))) ) ?_)
    refine mtCount S14 (mR (.tail _ (.tail _ (.tail _ (.tail _ (.head _)))))) (bm1 (Tuple_ (wpAny_items_cons (wpAny_Constant_str (wpAny_items_cons (Attribute_any_ (nmL (S14.toks _) (mR (.head _)) hmm (tgNumber (S14.toks _) fun t15 s15 S15 => wpAny_items_nil (newT S15 fun tp s16 S16 => ?_)))))))))
    refine countT (ts := ts) (n := if j then 2 else 1) S16 hu (.tail _ (mR (.tail _ (.tail _ (.tail _ (.tail _ (.head _))))))) (fun p hp => .tail _ (mR (.tail _ (.tail _ (.tail _ (.tail _ (.tail _ (List.mem_append_left _ (List.mem_reverse.mpr hp))))))))) (.head _) fun t17 s17 S17 => ?_
    refine ⟨_, _, ⟨rfl, rfl, ?_⟩, S17.sub (List.sublist_cons_self _ _)⟩
    rw [List.take_add_one, hj, List.map_append]; rfl
  rintro acc X R' c2 s14 ⟨rfl, rfl, rfl⟩ S14
  have e1 : (([false, true] : List Bool).map fun j => vi (σ'.cj j - 1)) = (([false, true] : List Bool).map fun j => (⟨.int (σ'.cj j - 1), 0⟩ : Tv)).map Tv.val := rfl
  have e2 : ((([false, true] : List Bool).take [Value.ref σ'.A.t0, .ref σ'.A.t1].length).map fun j => vi ((ts.map Tv.t).countP fun t => decide (t = .ref (if j then 2 else 1)) : Nat)) = (([false, true] : List Bool).map fun j => (⟨.int ((ts.map Tv.t).countP fun t => decide (t = .ref (if j then 2 else 1)) : Nat), 0⟩ : Tv)).map Tv.val := rfl
  rw [e1, e2] at S14
  refine eqTold S14 hu (mR (.tail _ (.head _))) (fun p hp => by simp [Tv.objs] at hp) (mR (.head _)) (fun p hp => by simp [Tv.objs] at hp) ?_
  have key : ∀ j : Bool, σ'.cj j - 1 = ((ts.map Tv.t).countP fun t => decide (t = .ref (if j then 2 else 1)) : Nat) := fun j => by
    have h1 := F.cj j
    have h2 : (ts.map Tv.t).countP (fun t => decide (t = .ref (if j then 2 else 1))) = σ.base j := by
      rw [hts, hvl, List.countP_map]
      exact List.countP_congr fun x _ => Eq.to_iff (congrArg (· = true) (told_isJ x))
    rw [h2, h1]
    simp [zvs]
    lia
  rw [decide_eq_true (by simp only [List.map_cons, List.map_nil, key])]
  exact h _ s14 S14
end
end Mine
end
section
open PySem PySem.W PySem.Calls PyProof.Rows
set_option maxRecDepth 100000
namespace Mine
section
variable {w : World} {s₀ s : Shared} {A : Around} {E : Value → Shared → Prop}
theorem law_walk {L sl fa : Addr} {cd : Value} {qual : Str} {vs : List Value} {ns : List Int} {Q : Flow → Shared → Prop} (hsl : s₀.heap.IsList sl vs.toArray) (hI : IntsAre vs ns) (hz : vs.length ≤ 63) (S : Sp w s₀ ((L, .ns [(k "script", .ref sl)]) :: (L + 1, .cell none) :: []) s) (hA : Rm A 25)
    (hfr : A.frames = some [envOfC qual lS L fa cd]) (h : ∀ W s', Sp w s₀ W s' → Q (.ret (.bool true)) s') : wpAny (model pg w) A (execs lB (envOfC qual lS L fa cd)) Q E s :=
  pre_spec hsl hI hz S hA fun _ _ _ hw hr hsc _ hm S1 => mid_spec S1 hA hw hr hsc hm fun _ _ _ hw hs r0 r1 hn hm S2 => turns_spec S2 hA hfr hw hs r0 r1 hn hm fun _ _ _ hb hm S3 => end_spec S3 hA hb hm h
end
end Mine
end
open PySem PySem.W PyProof.Rows
set_option maxRecDepth 100000 in
set_option maxHeartbeats 0 in
theorem PySem.Challenge.cw_sa0534_01_holds : PySem.Challenge.rw_sa0534_01.Holds := by
  refine holds_law Mine.said fun sd => ?_
  refine holds_open (q := Mine.q) (loose := Mine.loose) (Xt := Mine.Xt) (XP := XL Mine.q []) (Yf := Mine.Hk.obs) (Ya := Mine.Hk.val) (YP := Mine.Hk.says) (N := 11000) Mine.left Mine.Hk.of Mine.Hk.keeps (fun s e => xl_of s (Bool.and_eq_true_iff.mp e).1) XL.keeps (by rfl) (by rfl) (by rfl) (fun s e => recFacts_of (Bool.and_eq_true_iff.mp e).2) (by rfl) sd Mine.ok1 Mine.bare1 Mine.wit1 ?hc
  case hc =>
    intro w s₀ s₁ mg mb G Y fa o pm cd doc dV kV ho hd hcd hD hmg hg args vals as hpre hlay hrd hwl hlo
    have KX := kIn_of Y
    refine Ground.open G ?_
    intro T B D TE TW
    try (refine guard_noD D (by decide +kernel) ?_; clear D)
    obtain ⟨_, _, M⟩ := bmod_of_top T
    have TA := at_of_top T
    try (obtain ⟨_, _, he, B0⟩ := based_of_top T rfl hmg ho hd; have he' : cd = _ := he; subst he'; clear he)
    clear hmg
    wrow_args hpre hlay hrd hwl hlo
    all_goals (
      first | refine callC_kw (enter_call ?_) | refine enter_call ?_ | refine callC_kw (enter_callW ?_) | refine enter_callW ?_
      w_top on
      try refine codeAny_mono ?_ (fun _ _ g => GoodW.toG g)
      have K0 := below_caller (Top.heap T)
      w_call any ho hd hcd hD T F
      clear hd TA
      k_drop
      skip)
    rename_i ns hs1 hlay0 hL1 hr1 hl2 w5 w4 sl vs w1 hL ra w1' r0 hI hr hc1 hc2 h1 tk1 oc right N0 X0
    have e1 : h1.Ns s₁.heap.objs.size (fun x => List.lookup x [(Mine.k "script", Value.ref sl)]) := by
      have e := F.ns
      rw [show (fun _ => none : Str → Option Value) = (fun x => List.lookup x []) from rfl, Mine.bindL_eq, List.append_nil] at e
      exact e
    have e2 : h1.get? (s₁.heap.objs.size + 1) = some oc := (N0 _ (.head _)).1
    have e3 : oc.data = .cell none := by
      have e := right
      rw [show (fun _ => none : Str → Option Value) = (fun x => List.lookup x []) from rfl, Mine.bindC_eq, List.append_nil] at e
      exact e
    have S : Mine.Sp w s₁ ((s₁.heap.objs.size, .ns [(Mine.k "script", .ref sl)]) :: (s₁.heap.objs.size + 1, .cell none) :: []) { heap := h1, gens := s₁.gens, drawn := s₁.drawn, toks := tk1, os := s₁.os } := by
      obtain ⟨oL, es, ep, o1, o2, o3, o4⟩ := e1
      refine ⟨⟨KX, G.T.nolimit, ⟨mb, G.T.b, G.T.builtins⟩, ⟨mg, G.T.g⟩⟩, ⟨rfl, rfl, rfl⟩, F.keep, fun p hp => ?_, by simp, fun p hp => ?_, Nat.le_of_lt (Heap.lt_size o1)⟩
      · rcases List.mem_cons.mp hp with rfl | hp
        · exact ⟨oL, o1, es, ep, o2, o3, o4⟩
        · obtain rfl := List.mem_singleton.mp hp
          exact ⟨oc, e2, e3⟩
      · rcases List.mem_cons.mp hp with rfl | hp
        · exact Nat.le_refl _
        · obtain rfl := List.mem_singleton.mp hp
          exact Nat.le_succ _
    have hlen : vs.length ≤ 63 := by
      have := hI.length
      omega
    refine Mine.law_walk hL hI hlen S ⟨by show callerA.depth + 1 + 3 * 25 < recursionLimit; decide +kernel, by show callerA.units + 3 + 20 * 25 < cLine; decide +kernel, rfl⟩ rfl fun W s' S' => ?_
    refine ⟨.inl ⟨.bool true, .bool true, [], rfl, ?_, .bool true, ?_, ?_⟩, S'.keep, S'.rest.2.2, S'.rest.1.trans hg⟩
    · exact fun cls => rfl
    · show (WShape.has [] (WData.bool true) WShape.bool && WTm.holds [] (WTm.eq WTm.res (WTm.lit (.bool true))) { args := [ofPy (PyData.list (ns.map .int))], res := some (WData.bool true), after := [ofPy (PyData.list (ns.map .int))] }) = true
      have e : (WTm.eq WTm.res (WTm.lit (.bool true))).value [] { args := [ofPy (PyData.list (ns.map .int))], res := some (WData.bool true), after := [ofPy (PyData.list (ns.map .int))] } = some (.bool (true == true)) := w_eq_bool rfl rfl
      rw [Bool.and_eq_true]
      refine ⟨rfl, ?_⟩
      unfold WTm.holds
      rw [e]; rfl
    · exact unshared_nil
