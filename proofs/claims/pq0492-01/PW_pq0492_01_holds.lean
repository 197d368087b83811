import PyProof.Rows.All
import Wide.All
import OpenK.AllK
import Wide.FinOn
import Lean
import PySem.Challenge.RW_pq0492_01
set_option Elab.async false
set_option maxHeartbeats 0
set_option maxRecDepth 100000
set_option linter.unusedVariables false
set_option genSizeOf false
set_option genInjectivity false
namespace Mine
open PySem PySem.W PySem.Calls PySem.Spec PyProof.Rows
noncomputable abbrev pw : Program := PySem.Challenge.pw_pq0492_01
noncomputable def s (x : String) (t : Nat) : Value := .str (Str.ofString x) t
noncomputable def r (a : Nat) : Value := .ref a
noncomputable def i (n : Int) : Value := .int n 0
noncomputable def it (n : Int) (t : Nat) : Value := .int n t
noncomputable def e (P : Params) (k : String) (t : Nat) (v : Value) : DictEntry := ⟨PyData.keyHash P (Str.ofString k), .str (Str.ofString k) t, v⟩
noncomputable def tu (l : List Value) : Obj := ⟨.type "tuple", none, .seq ⟨l⟩ 0, #[]⟩
noncomputable def tu0 : Obj := tu []
noncomputable def fi (c : Value) (l : List Value) : Obj := ⟨c, none, .fields ⟨l⟩, #[]⟩
noncomputable def fi0 : Obj := fi .none []
noncomputable def di (l : List DictEntry) (n : Nat) : Obj := ⟨.type "dict", none, .dict ⟨l⟩ n, #[]⟩
noncomputable def fr (l : List (Option Value)) : Obj := ⟨.type "frame", none, .plain, ⟨l⟩⟩
noncomputable def co (n q : String) (t : Nat) (line argc fl : Int) (a1 : Nat) (fast : Bool) (a2 : Nat) (c3 c4 c5 : Value) (k2 : Int) (t4 : Nat) : Obj :=
  fi (.type "code") [s n t, s q (t + 1), s "/claim/cut.py" (t + 2), i line, i argc, i 0, i 0, i fl, r a1, .bool fast, i 181, r a2, .none, c3, c4, c5, i k2, i line, s "/claim/cut.py" t4]
noncomputable def cl (n q : String) (bases mro : List Value) (ns : Nat) (hd : Bool) (sub : List Value) (sl : List (Option Value)) : Obj :=
  ⟨.type "type", none, .cls { name := Str.ofString n, bases := bases, mro := mro, ns := ns, qualname := Str.ofString q, hasDict := hd, subclasses := sub }, ⟨sl⟩⟩
noncomputable def nth : List Stmt → Nat → Stmt
  | [], _ => .Pass ⟨0, 0, 0, 0⟩
  | x :: _, 0 => x
  | _ :: l, n + 1 => nth l n
noncomputable def st (n : Nat) : Stmt := nth pw.main.body n
noncomputable def inCls : Stmt → List Stmt
  | .ClassDef _ _ _ b _ _ _ _ _ _ _ => b
  | _ => []
noncomputable def me (n k : Nat) : Stmt := nth (inCls (st n)) k
noncomputable def fName : Stmt → Str
  | .FunctionDef n _ _ _ _ _ _ _ _ _ => n
  | _ => Str.empty
noncomputable def fArgs : Stmt → Arguments
  | .FunctionDef _ a _ _ _ _ _ _ _ _ => a
  | _ => ⟨[], [], none, [], [], none, []⟩
noncomputable def fBody : Stmt → List Stmt
  | .FunctionDef _ _ b _ _ _ _ _ _ _ => b
  | _ => []
noncomputable def fScope : Stmt → Scope
  | .FunctionDef _ _ _ _ _ _ c _ _ _ => c
  | _ => { kind := .function, names := [], isGenerator := false, isCoroutine := false }
noncomputable def fo (x : Stmt) (q : String) (dV pm cd : Value) : Obj := ⟨.type "function", none, .func { name := fName x, qualname := Str.ofString q, params := fArgs x, body := .stmts (fBody x), scope := fScope x, globals := 3, closure := [], defaults := dV, kwdefaults := .none, pyModule := pm, code := cd }, #[]⟩
noncomputable def fc (x : Stmt) (q : String) : Obj := ⟨.none, none, .func { name := fName x, qualname := Str.ofString q, params := fArgs x, body := .stmts (fBody x), scope := fScope x, globals := 0, closure := [], defaults := .none, kwdefaults := .none }, #[]⟩
noncomputable def mBase (P : Params) : List DictEntry := [e P "__doc__" 166 .none, e P "__package__" 167 .none, e P "__loader__" 168 (.builtin "__main__.__loader__#opaque"), e P "__spec__" 169 .none, e P "__annotations__" 170 (r 6), e P "__builtins__" 171 (r 4), e P "__file__" 173 (s "/claim/cut.py" 172), e P "__cached__" 174 .none]
noncomputable def mA (P : Params) : List DictEntry := [e P "_wall" 193 (r 21), e P "SIMPLE_ESCAPES" 229 (r 22), e P "OPERATORS" 257 (r 23), e P "GLOBAL_SIGNS" 259 (s "!@~&`'+$?:\"/\\;,.<>_*" 258), e P "DEEPEST_KEY" 261 (it 12 260), e P "MOST_SEEN" 263 (it 20000 262)]
noncomputable def mC (P : Params) : List DictEntry := [e P "Thing" 298 (r 40), e P "Text" 326 (r 62), e P "ListThing" 353 (r 82), e P "TableThing" 405 (r 120), e P "RangeThing" 436 (r 140), e P "ProcThing" 479 (r 161), e P "ErrorThing" 507 (r 181), e P "FiberThing" 537 (r 201), e P "ModuleThing" 584 (r 228), e P "Entry" 638 (r 256)]
noncomputable def mD (P : Params) : List DictEntry := [e P "sort_of" 645 (r 267), e P "same" 654 (r 274), e P "takes_in" 662 (r 281), e P "code_of" 668 (r 287), e P "is_word" 676 (r 294), e P "is_figures" 682 (r 299), e P "is_label" 689 (r 306), e P "is_plain_symbol" 696 (r 313), e P "full_name" 706 (r 320), e P "show_letter" 716 (r 327), e P "show_text" 722 (r 332), e P "show_symbol" 729 (r 339), e P "show_pair" 739 (r 346), e P "show_range" 750 (r 353), e P "show_held" 756 (r 358), e P "show_thing" 767 (r 365), e P "message_text" 779 (r 373), e P "show" 790 (r 381), e P "has_thing" 801 (r 388), e P "own_line" 807 (r 393), e P "numbered" 813 (r 398), e P "made_line" 819 (r 403), e P "line_of" 830 (r 410), e P "PRIVATE_NAMES" 835 (r 411), e P "PRIVATE_KERNEL" 849 (r 412), e P "GivenEntry" 865 (r 422), e P "sight_of" 873 (r 431), e P "given_entry" 890 (r 438), e P "entry_at" 900 (r 445), e P "first_entry" 912 (r 452), e P "find" 921 (r 459), e P "find_behind" 934 (r 466), e P "raise_version" 941 (r 473), e P "need_unfrozen" 951 (r 480), e P "own_module" 961 (r 487), e P "class_above" 968 (r 494), e P "make_own" 978 (r 501), e P "define" 987 (r 508), e P "kind_word" 994 (r 515), e P "copied" 1002 (r 522), e P "need_mixin" 1013 (r 529), e P "include" 1022 (r 536), e P "prepend" 1028 (r 541), e P "GemError" 1058 (r 559), e P "Raised" 1083 (r 579), e P "MODULES" 1089 (r 582)]
noncomputable def mF (P : Params) : List DictEntry := [e P "BUILTINS" 1206 (r 583), e P "MIXED" 1228 (r 586)]
noncomputable def mG (P : Params) : List DictEntry := [e P "UNMADE" 1234 (r 594), e P "World" 1607 (r 870), e P "_law_put" 1619 (r 881), e P "_law_plain" 1626 (r 888), e P "_law_levels_right" 1632 (r 893), e P "_law_classes_right" 1638 (r 898), e P "law" 1646 (r 905)]
noncomputable def mnb (P : Params) : Obj := di (e P "__name__" 165 (s "__main__" 164) :: mBase P) 9
noncomputable def mna (P : Params) : Obj := di (e P "__name__" 165 (s "gemrows.things" 194) :: (mBase P).append (mA P)) 15
noncomputable def mnc (P : Params) : Obj := di (e P "__name__" 165 (s "gemrows.things" 194) :: (mBase P).append ((mA P).append (mC P))) 25
noncomputable def mnd (P : Params) : Obj := di (e P "__name__" 165 (s "gemrows.world" 1084) :: (mBase P).append ((mA P).append ((mC P).append (mD P)))) 71
noncomputable def mnf (P : Params) : Obj := di (e P "__name__" 165 (s "gemrows.world" 1084) :: (mBase P).append ((mA P).append ((mC P).append ((mD P).append (mF P))))) 73
noncomputable def mng (P : Params) : Obj := di (e P "__name__" 165 (s "law_pq0492_01" 1608) :: (mBase P).append ((mA P).append ((mC P).append ((mD P).append ((mF P).append (mG P)))))) 80
noncomputable def cA : List Value := [(i 1), (i 0), (r 20)]
noncomputable def cC : List Value := [(i 10), (i 0), (r 29), (i 19), (i 0), (r 50), (i 24), (i 0), (r 70), (i 29), (i 0), (r 90), (i 49), (i 0), (r 128), (i 56), (i 0), (r 148), (i 69), (i 0), (r 169), (i 75), (i 0), (r 189), (i 83), (i 0), (r 209), (i 101), (i 0), (r 236)]
noncomputable def cD : List Value := [(i 120), (i 0), (r 266), (i 128), (i 0), (r 273), (i 133), (i 0), (r 280), (i 138), (i 0), (r 286), (i 153), (i 0), (r 293), (i 160), (i 0), (r 298), (i 162), (i 0), (r 305), (i 164), (i 0), (r 312), (i 174), (i 0), (r 319), (i 189), (i 0), (r 326), (i 199), (i 0), (r 331), (i 202), (i 0), (r 338), (i 204), (i 0), (r 345), (i 208), (i 0), (r 352), (i 212), (i 0), (r 357), (i 222), (i 0), (r 364), (i 236), (i 0), (r 372), (i 247), (i 0), (r 380), (i 259), (i 0), (r 387), (i 264), (i 0), (r 392), (i 276), (i 0), (r 397), (i 278), (i 0), (r 402), (i 288), (i 0), (r 409), (i 300), (i 0), (r 418), (i 302), (i 0), (r 430), (i 306), (i 0), (r 437), (i 319), (i 0), (r 444), (i 326), (i 0), (r 451), (i 336), (i 0), (r 458), (i 338), (i 0), (r 465), (i 344), (i 0), (r 472), (i 346), (i 0), (r 479), (i 355), (i 0), (r 486), (i 367), (i 0), (r 493), (i 369), (i 0), (r 500), (i 376), (i 0), (r 507), (i 380), (i 0), (r 514), (i 382), (i 0), (r 521), (i 384), (i 0), (r 528), (i 391), (i 0), (r 535), (i 396), (i 0), (r 540), (i 403), (i 0), (r 547), (i 408), (i 0), (r 568)]
noncomputable def cG : List Value := [(i 418), (i 0), (r 600), (i 623), (i 0), (r 880), (i 625), (i 0), (r 887), (i 627), (i 0), (r 892), (i 646), (i 0), (r 897), (i 659), (i 0), (r 904)]
noncomputable def cnb : Obj := fi0
noncomputable def cna : Obj := fi .none cA
noncomputable def cnc : Obj := fi .none (cA.append cC)
noncomputable def cnd : Obj := fi .none (cA.append (cC.append cD))
noncomputable def cng : Obj := fi .none (cA.append (cC.append (cD.append cG)))
noncomputable def entO (l : List Value) : Obj := cl "Entry" "Entry" [(.type "object")] [(r 256), (.type "object")] 255 true l [none, none, (some (s "Entry" 585)), (some (s "Entry" 593)), (some (.builtin "object.__new__")), (some (.bool true))]
noncomputable def o36 : Obj := co "__init__" "Thing.__init__" 276 12 3 3 31 true 32 (r 33) (r 34) (r 35) 282 283
noncomputable def o37 : Obj := fo (me 7 0) "Thing.__init__" .none (s "gemrows.things" 194) (r 36)
noncomputable def o39 (P : Params) : Obj := di [e P "__module__" 271 (s "gemrows.things" 194), e P "__firstlineno__" 275 (it 10 274), e P "__init__" 284 (r 37), e P "__static_attributes__" 291 (r 38), e P "__dict__" 293 (r 41), e P "__weakref__" 295 (r 42), e P "__doc__" 296 .none] 4
noncomputable def o40 : Obj := cl "Thing" "Thing" [(.type "object")] [(r 40), (.type "object")] 39 true [(r 62), (r 82), (r 120), (r 140), (r 161), (r 181), (r 201), (r 228)] [none, none, (some (s "Thing" 264)), (some (s "Thing" 272)), (some (.builtin "object.__new__")), (some (.bool true))]
noncomputable def o211 : Obj := tu [.none, (.bool false), .none, .none]
noncomputable def o217 : Obj := co "__init__" "ModuleThing.__init__" 550 85 7 3 212 true 213 (r 214) (r 215) (r 216) 560 561
noncomputable def o218 : Obj := fo (me 15 0) "ModuleThing.__init__" (r 211) (s "gemrows.things" 194) (r 217)
noncomputable def o224 : Obj := co "is_own" "ModuleThing.is_own" 563 99 1 3 219 true 220 (r 221) (r 222) (r 223) 567 568
noncomputable def o225 : Obj := fo (me 15 1) "ModuleThing.is_own" .none (s "gemrows.things" 194) (r 224)
noncomputable def o227 (P : Params) : Obj := di [e P "__module__" 545 (s "gemrows.things" 194), e P "__firstlineno__" 549 (it 83 548), e P "__init__" 562 (r 218), e P "is_own" 569 (r 225), e P "__static_attributes__" 581 (r 226), e P "__doc__" 582 .none] 2
noncomputable def o228 : Obj := cl "ModuleThing" "ModuleThing" [(r 40)] [(r 228), (r 40), (.type "object")] 227 true [] [(some (r 204)), none, (some (s "ModuleThing" 538)), (some (s "ModuleThing" 546)), (some (.builtin "object.__new__")), (some (.bool true))]
noncomputable def o238 : Obj := tu [.none, .none, (s "public" 597)]
noncomputable def o244 : Obj := co "__init__" "Entry.__init__" 598 103 7 3 239 true 240 (r 241) (r 242) (r 243) 608 609
noncomputable def o245 : Obj := fo (me 16 0) "Entry.__init__" (r 238) (s "gemrows.things" 194) (r 244)
noncomputable def o255 (P : Params) : Obj := di [e P "__module__" 592 (s "gemrows.things" 194), e P "__firstlineno__" 596 (it 101 595), e P "__init__" 610 (r 245), e P "moved" 621 (r 253), e P "__static_attributes__" 631 (r 254), e P "__dict__" 633 (r 257), e P "__weakref__" 635 (r 258), e P "__doc__" 636 .none] 4
noncomputable def o266 : Obj := co "sort_of" "sort_of" 639 120 1 3 261 true 262 (r 263) (r 264) (r 265) 643 644
noncomputable def o267 : Obj := fo (st 17) "sort_of" .none (s "gemrows.things" 194) (r 266)
noncomputable def o273 : Obj := co "same" "same" 646 128 2 3 268 true 269 (r 270) (r 271) (r 272) 652 653
noncomputable def o274 : Obj := fo (st 18) "same" .none (s "gemrows.things" 194) (r 273)
noncomputable def o319 : Obj := co "full_name" "full_name" 697 174 1 3 314 true 315 (r 316) (r 317) (r 318) 704 705
noncomputable def o320 : Obj := fo (st 25) "full_name" .none (s "gemrows.things" 194) (r 319)
noncomputable def o387 : Obj := co "has_thing" "has_thing" 793 259 2 3 382 true 383 (r 384) (r 385) (r 386) 799 800
noncomputable def o388 : Obj := fo (st 36) "has_thing" .none (s "gemrows.lines" 791) (r 387)
noncomputable def o392 : Obj := co "own_line" "own_line" 802 264 1 3 389 true 390 .none .none (r 391) 805 806
noncomputable def o393 : Obj := fo (st 37) "own_line" .none (s "gemrows.lines" 791) (r 392)
noncomputable def o397 : Obj := co "numbered" "numbered" 808 276 1 3 394 true 395 .none .none (r 396) 811 812
noncomputable def o398 : Obj := fo (st 38) "numbered" .none (s "gemrows.lines" 791) (r 397)
noncomputable def o402 : Obj := co "made_line" "made_line" 814 278 2 3 399 true 400 .none .none (r 401) 817 818
noncomputable def o403 : Obj := fo (st 39) "made_line" .none (s "gemrows.lines" 791) (r 402)
noncomputable def o409 : Obj := co "line_of" "line_of" 820 288 2 3 404 true 405 (r 406) (r 407) (r 408) 828 829
noncomputable def o410 : Obj := fo (st 40) "line_of" .none (s "gemrows.lines" 791) (r 409)
noncomputable def o421 (P : Params) : Obj := di [e P "__module__" 857 (s "gemrows.lines" 791), e P "__firstlineno__" 861 (it 300 860), e P "__static_attributes__" 862 (r 420), e P "__doc__" 863 .none] 2
noncomputable def o422 : Obj := cl "GivenEntry" "GivenEntry" [(r 256)] [(r 422), (r 256), (.type "object")] 421 true [] [(some (r 413)), none, (some (s "GivenEntry" 850)), (some (s "GivenEntry" 858)), (some (.builtin "object.__new__")), (some (.bool true))]
noncomputable def o430 : Obj := co "sight_of" "sight_of" 866 302 2 3 425 true 426 (r 427) (r 428) (r 429) 871 872
noncomputable def o431 : Obj := fo (st 44) "sight_of" .none (s "gemrows.lines" 791) (r 430)
noncomputable def o437 : Obj := co "given_entry" "given_entry" 874 306 3 3 432 true 433 (r 434) (r 435) (r 436) 888 889
noncomputable def o438 : Obj := fo (st 45) "given_entry" .none (s "gemrows.lines" 791) (r 437)
noncomputable def o444 : Obj := co "entry_at" "entry_at" 891 319 3 3 439 true 440 (r 441) (r 442) (r 443) 898 899
noncomputable def o445 : Obj := fo (st 46) "entry_at" .none (s "gemrows.lines" 791) (r 444)
noncomputable def o451 : Obj := co "first_entry" "first_entry" 901 326 3 3 446 true 447 (r 448) (r 449) (r 450) 910 911
noncomputable def o452 : Obj := fo (st 47) "first_entry" .none (s "gemrows.lines" 791) (r 451)
noncomputable def o458 : Obj := co "find" "find" 913 336 3 3 453 true 454 (r 455) (r 456) (r 457) 919 920
noncomputable def o459 : Obj := fo (st 48) "find" .none (s "gemrows.lines" 791) (r 458)
noncomputable def o465 : Obj := co "find_behind" "find_behind" 922 338 4 3 460 true 461 (r 462) (r 463) (r 464) 932 933
noncomputable def o466 : Obj := fo (st 49) "find_behind" .none (s "gemrows.lines" 791) (r 465)
noncomputable def o472 : Obj := co "raise_version" "raise_version" 935 344 1 3 467 true 468 (r 469) (r 470) (r 471) 939 940
noncomputable def o473 : Obj := fo (st 50) "raise_version" .none (s "gemrows.lines" 791) (r 472)
noncomputable def o479 : Obj := co "need_unfrozen" "need_unfrozen" 942 346 2 3 474 true 475 (r 476) (r 477) (r 478) 949 950
noncomputable def o480 : Obj := fo (st 51) "need_unfrozen" .none (s "gemrows.lines" 791) (r 479)
noncomputable def o486 : Obj := co "own_module" "own_module" 952 355 2 3 481 true 482 (r 483) (r 484) (r 485) 959 960
noncomputable def o487 : Obj := fo (st 52) "own_module" .none (s "gemrows.lines" 791) (r 486)
noncomputable def o493 : Obj := co "class_above" "class_above" 962 367 1 3 488 true 489 (r 490) (r 491) (r 492) 966 967
noncomputable def o494 : Obj := fo (st 53) "class_above" .none (s "gemrows.lines" 791) (r 493)
noncomputable def o500 : Obj := co "make_own" "make_own" 969 369 2 3 495 true 496 (r 497) (r 498) (r 499) 976 977
noncomputable def o501 : Obj := fo (st 54) "make_own" .none (s "gemrows.lines" 791) (r 500)
noncomputable def o507 : Obj := co "define" "define" 979 376 3 3 502 true 503 (r 504) (r 505) (r 506) 985 986
noncomputable def o508 : Obj := fo (st 55) "define" .none (s "gemrows.lines" 791) (r 507)
noncomputable def o514 : Obj := co "kind_word" "kind_word" 988 380 1 3 509 true 510 (r 511) (r 512) (r 513) 992 993
noncomputable def o515 : Obj := fo (st 56) "kind_word" .none (s "gemrows.lines" 791) (r 514)
noncomputable def o521 : Obj := co "copied" "copied" 995 382 2 3 516 true 517 (r 518) (r 519) (r 520) 1000 1001
noncomputable def o522 : Obj := fo (st 57) "copied" .none (s "gemrows.lines" 791) (r 521)
noncomputable def o528 : Obj := co "need_mixin" "need_mixin" 1003 384 4 3 523 true 524 (r 525) (r 526) (r 527) 1011 1012
noncomputable def o529 : Obj := fo (st 58) "need_mixin" .none (s "gemrows.lines" 791) (r 528)
noncomputable def o535 : Obj := co "include" "include" 1014 391 3 3 530 true 531 (r 532) (r 533) (r 534) 1020 1021
noncomputable def o536 : Obj := fo (st 59) "include" .none (s "gemrows.lines" 791) (r 535)
noncomputable def o540 : Obj := co "prepend" "prepend" 1023 396 3 3 537 true 538 .none .none (r 539) 1026 1027
noncomputable def o541 : Obj := fo (st 60) "prepend" .none (s "gemrows.lines" 791) (r 540)
noncomputable def o582 : Obj := tu [(s "Kernel" 1086), (s "Comparable" 1087), (s "Enumerable" 1088)]
noncomputable def o583 (P : Params) : Obj := di [e P "BasicObject" 1090 .none, e P "Object" 1092 (s "BasicObject" 1093), e P "Module" 1095 (s "Object" 1096), e P "Class" 1098 (s "Module" 1099), e P "Kernel" 1101 .none, e P "Comparable" 1103 .none, e P "Enumerable" 1105 .none, e P "NilClass" 1107 (s "Object" 1108), e P "TrueClass" 1110 (s "Object" 1111), e P "FalseClass" 1113 (s "Object" 1114), e P "Numeric" 1116 (s "Object" 1117), e P "Integer" 1119 (s "Numeric" 1120), e P "String" 1122 (s "Object" 1123), e P "Symbol" 1125 (s "Object" 1126), e P "Array" 1128 (s "Object" 1129), e P "Hash" 1131 (s "Object" 1132), e P "Range" 1134 (s "Object" 1135), e P "Proc" 1137 (s "Object" 1138), e P "Fiber" 1140 (s "Object" 1141), e P "Exception" 1143 (s "Object" 1144), e P "ScriptError" 1146 (s "Exception" 1147), e P "NotImplementedError" 1149 (s "ScriptError" 1150), e P "SystemStackError" 1152 (s "Exception" 1153), e P "StandardError" 1155 (s "Exception" 1156), e P "ArgumentError" 1158 (s "StandardError" 1159), e P "UncaughtThrowError" 1161 (s "ArgumentError" 1162), e P "FiberError" 1164 (s "StandardError" 1165), e P "IndexError" 1167 (s "StandardError" 1168), e P "KeyError" 1170 (s "IndexError" 1171), e P "StopIteration" 1173 (s "IndexError" 1174), e P "LocalJumpError" 1176 (s "StandardError" 1177), e P "NameError" 1179 (s "StandardError" 1180), e P "NoMethodError" 1182 (s "NameError" 1183), e P "NoMatchingPatternError" 1185 (s "StandardError" 1186), e P "NoMatchingPatternKeyError" 1188 (s "NoMatchingPatternError" 1189), e P "RangeError" 1190 (s "StandardError" 1191), e P "RuntimeError" 1192 (s "StandardError" 1193), e P "FrozenError" 1194 (s "RuntimeError" 1195), e P "TypeError" 1196 (s "StandardError" 1197), e P "ZeroDivisionError" 1198 (s "StandardError" 1199)] 40
noncomputable def o586 (P : Params) : Obj := di [e P "Object" 1207 (r 587), e P "Numeric" 1209 (r 588), e P "String" 1211 (r 589), e P "Symbol" 1213 (r 590), e P "Array" 1215 (r 591), e P "Hash" 1217 (r 592), e P "Range" 1219 (r 593)] 7
noncomputable def o587 : Obj := tu [(s "Kernel" 1208)]
noncomputable def o588 : Obj := tu [(s "Comparable" 1210)]
noncomputable def o589 : Obj := tu [(s "Comparable" 1212)]
noncomputable def o590 : Obj := tu [(s "Comparable" 1214)]
noncomputable def o591 : Obj := tu [(s "Enumerable" 1216)]
noncomputable def o592 : Obj := tu [(s "Enumerable" 1218)]
noncomputable def o593 : Obj := tu [(s "Enumerable" 1220)]
noncomputable def o602 : Obj := tu [.none, .none, (it 20000 1247)]
noncomputable def o608 : Obj := co "__init__" "World.__init__" 1248 420 5 3 603 true 604 (r 605) (r 606) (r 607) 1257 1258
noncomputable def o609 : Obj := fo (me 69 0) "World.__init__" (r 602) (s "gemrows.world" 1084) (r 608)
noncomputable def o629 : Obj := co "number" "World.number" 1275 447 1 3 624 true 625 (r 626) (r 627) (r 628) 1279 1280
noncomputable def o630 : Obj := fo (me 69 3) "World.number" .none (s "gemrows.world" 1084) (r 629)
noncomputable def o650 : Obj := co "builtin" "World.builtin" 1298 471 2 3 645 true 646 (r 647) (r 648) (r 649) 1304 1305
noncomputable def o651 : Obj := fo (me 69 6) "World.builtin" .none (s "gemrows.world" 1084) (r 650)
noncomputable def o655 : Obj := co "make_builtin" "World.make_builtin" 1307 475 2 3 652 true 653 .none .none (r 654) 1310 1311
noncomputable def o656 : Obj := fo (me 69 7) "World.make_builtin" .none (s "gemrows.world" 1084) (r 655)
noncomputable def o662 : Obj := co "give_own" "World.give_own" 1313 488 2 3 657 true 658 (r 659) (r 660) (r 661) 1318 1319
noncomputable def o663 : Obj := fo (me 69 8) "World.give_own" .none (s "gemrows.world" 1084) (r 662)
noncomputable def o664 : Obj := tu [.none, .none, .none]
noncomputable def o670 : Obj := co "new_module" "World.new_module" 1321 492 6 3 665 true 666 (r 667) (r 668) (r 669) 1333 1334
noncomputable def o671 : Obj := fo (me 69 9) "World.new_module" (r 664) (s "gemrows.world" 1084) (r 670)
noncomputable def o677 : Obj := co "class_of" "World.class_of" 1336 501 2 3 672 true 673 (r 674) (r 675) (r 676) 1341 1342
noncomputable def o678 : Obj := fo (me 69 10) "World.class_of" .none (s "gemrows.world" 1084) (r 677)
noncomputable def o869 (P : Params) : Obj := di [e P "__module__" 1242 (s "gemrows.world" 1084), e P "__firstlineno__" 1246 (it 418 1245), e P "__init__" 1259 (r 609), e P "tick" 1266 (r 616), e P "write" 1274 (r 623), e P "number" 1281 (r 630), e P "next_ident" 1288 (r 637), e P "ident" 1297 (r 644), e P "builtin" 1306 (r 651), e P "make_builtin" 1312 (r 656), e P "give_own" 1320 (r 663), e P "new_module" 1335 (r 671), e P "class_of" 1343 (r 678), e P "own_of" 1351 (r 685), e P "own_behind" 1359 (r 692), e P "root_of" 1367 (r 699), e P "real_class" 1375 (r 706), e P "text" 1383 (r 713), e P "list_of" 1391 (r 720), e P "table_of" 1399 (r 727), e P "key_of" 1407 (r 734), e P "range_of" 1417 (r 741), e P "proc" 1434 (r 748), e P "thing" 1444 (r 755), e P "is_error_class" 1452 (r 762), e P "spread" 1460 (r 769), e P "numbers_of" 1468 (r 776), e P "need_size" 1476 (r 783), e P "sized_text" 1484 (r 790), e P "error" 1493 (r 797), e P "fail" 1502 (r 804), e P "need_thawed" 1510 (r 811), e P "set_field" 1520 (r 818), e P "describe" 1528 (r 825), e P "own_constant" 1537 (r 832), e P "find_constant" 1546 (r 839), e P "constant" 1555 (r 846), e P "find_in" 1564 (r 853), e P "constant_in" 1573 (r 860), e P "set_constant" 1583 (r 867), e P "__static_attributes__" 1600 (r 868), e P "__dict__" 1602 (r 871), e P "__weakref__" 1604 (r 872), e P "__doc__" 1605 .none] 4
noncomputable def o870 : Obj := cl "World" "World" [(.type "object")] [(r 870), (.type "object")] 869 true [] [none, none, (some (s "World" 1235)), (some (s "World" 1243)), (some (.builtin "object.__new__")), (some (.bool true))]
noncomputable def o880 : Obj := co "_law_put" "_law_put" 1610 623 4 3 875 true 876 (r 877) (r 878) (r 879) 1617 1618
noncomputable def o881 : Obj := fo (st 71) "_law_put" .none (s "law_pq0492_01" 1608) (r 880)
noncomputable def o887 : Obj := co "_law_plain" "_law_plain" 1620 625 1 3 882 true 883 (r 884) (r 885) (r 886) 1624 1625
noncomputable def o888 : Obj := fo (st 72) "_law_plain" .none (s "law_pq0492_01" 1608) (r 887)
noncomputable def o892 : Obj := co "_law_levels_right" "_law_levels_right" 1627 627 2 3 889 true 890 .none .none (r 891) 1630 1631
noncomputable def o893 : Obj := fo (st 73) "_law_levels_right" .none (s "law_pq0492_01" 1608) (r 892)
noncomputable def o897 : Obj := co "_law_classes_right" "_law_classes_right" 1633 646 2 3 894 true 895 .none .none (r 896) 1636 1637
noncomputable def o898 : Obj := fo (st 74) "_law_classes_right" .none (s "law_pq0492_01" 1608) (r 897)
noncomputable def o904 : Obj := co "law" "law" 1639 659 1 3 899 true 900 (r 901) (r 902) (r 903) 1644 1645
noncomputable def o905 : Obj := fo (st 75) "law" .none (s "law_pq0492_01" 1608) (r 904)
noncomputable def lo (P : Params) (m c : Obj) (l : List Obj) : List Obj := boot_o_0 P :: boot_o_1 P :: boot_o_2 P :: m :: boot_o_4 P :: boot_o_5 P :: boot_o_6 P :: boot_o_7 P :: boot_o_8 P :: boot_o_9 P :: boot_o_10 P :: tu0 :: c :: co "<module>" "<module>" 182 1 0 0 11 false 12 .none .none .none 185 186 :: fr [(some (r 13)), (some (r 3)), (some (r 3)), none, (some (s "__main__" 164)), none, (some (r 0))] :: l
noncomputable def lA (P : Params) : List Obj := [tu0, fi0, tu [(s "k" 190)], tu0, fc (st 0) "_wall", co "_wall" "_wall" 187 1 1 3 15 true 16 (r 17) (r 18) (r 19) 191 192, fo (st 0) "_wall" .none (s "__main__" 164) (r 20), di [e P "\\" 196 (s "\\\\" 197), e P "\"" 198 (s "\\\"" 199), e P "\n" 200 (s "\\n" 201), e P "\t" 202 (s "\\t" 203), e P "\x0d" 204 (s "\\r" 205), e P "\x1b" 206 (s "\\e" 207), e P "\x07" 208 (s "\\a" 209), e P "\x08" 210 (s "\\b" 211), e P "\x0b" 212 (s "\\v" 213), e P "\x0c" 214 (s "\\f" 215), e P "\x7f" 216 (s "\\x7F" 217)] 11, tu [(s "+" 230), (s "-" 231), (s "*" 232), (s "/" 233), (s "%" 234), (s "**" 235), (s "==" 236), (s "!=" 237), (s "<" 238), (s ">" 239), (s "<=" 240), (s ">=" 241), (s "<=>" 242), (s "===" 243), (s "[]" 244), (s "[]=" 245), (s "<<" 246), (s ">>" 247), (s "!" 248), (s "~" 249), (s "+@" 250), (s "-@" 251), (s "&" 252), (s "|" 253), (s "^" 254), (s "=~" 255), (s "!~" 256)]]
noncomputable def lC (P : Params) : List Obj := [tu0, fi (.type "builtin_function_or_method") [(.builtin "type.__prepare__"), (.type "type")], di [e P "__module__" 271 (s "gemrows.things" 194), e P "__qualname__" 273 (s "Thing" 272), e P "__firstlineno__" 275 (it 10 274), e P "__init__" 284 (r 37), e P "__static_attributes__" 291 (r 38)] 5, tu0, fi .none [(i 12), (i 4), (r 36)], co "Thing" "Thing" 266 10 0 0 27 false 28 .none .none .none 269 270, fr [(some (r 29)), (some (r 3)), (some (r 26)), none, (some (s "gemrows.things" 194)), none, (some (r 0))], tu0, fi0, tu [(s "self" 279), (s "number" 280), (s "owner" 281)], tu0, fc (me 7 0) "Thing.__init__", o36, o37, tu [(s "fields" 285), (s "frozen" 286), (s "ident" 287), (s "number" 288), (s "own" 289), (s "owner" 290)], o39 P, o40, fi (.type "getset_descriptor") [(s "__dict__" 292), (r 40), (.builtin "function.__dict__"), (.builtin "function.__dict__#set")], fi (.type "getset_descriptor") [(s "__weakref__" 294), (r 40), (.builtin "ExceptionGroup.__weakref__"), .none], fi (.type "super") [(r 40), (r 40), (r 40)], fi (.type "builtin_function_or_method") [(.builtin "object.__init_subclass__"), (r 40)], tu [(r 40)], fi (.type "builtin_function_or_method") [(.builtin "type.__prepare__"), (.type "type")], di [e P "__module__" 306 (s "gemrows.things" 194), e P "__qualname__" 308 (s "Text" 307), e P "__firstlineno__" 310 (it 19 309), e P "__init__" 321 (r 59), e P "__static_attributes__" 323 (r 60)] 5, tu0, fi .none [(i 21), (i 4), (r 58)], co "Text" "Text" 301 19 0 0 48 false 49 .none .none .none 304 305, fr [(some (r 50)), (some (r 3)), (some (r 47)), none, (some (s "gemrows.things" 194)), none, (some (r 0))], tu [(s "" 311)], tu0, fi0, tu [(s "self" 315), (s "number" 316), (s "owner" 317), (s "text" 318)], tu0, fc (me 8 0) "Text.__init__", co "__init__" "Text.__init__" 312 21 4 3 53 true 54 (r 55) (r 56) (r 57) 319 320, fo (me 8 0) "Text.__init__" (r 52) (s "gemrows.things" 194) (r 58), tu [(s "text" 322)], di [e P "__module__" 306 (s "gemrows.things" 194), e P "__firstlineno__" 310 (it 19 309), e P "__init__" 321 (r 59), e P "__static_attributes__" 323 (r 60), e P "__doc__" 324 .none] 2, cl "Text" "Text" [(r 40)] [(r 62), (r 40), (.type "object")] 61 true [] [(some (r 45)), none, (some (s "Text" 299)), (some (s "Text" 307)), (some (.builtin "object.__new__")), (some (.bool true))], fi (.type "super") [(r 62), (r 62), (r 62)], fi (.type "builtin_function_or_method") [(.builtin "object.__init_subclass__"), (r 62)], tu [(r 40)], fi (.type "builtin_function_or_method") [(.builtin "type.__prepare__"), (.type "type")], di [e P "__module__" 334 (s "gemrows.things" 194), e P "__qualname__" 336 (s "ListThing" 335), e P "__firstlineno__" 338 (it 24 337), e P "__init__" 348 (r 79), e P "__static_attributes__" 350 (r 80)] 5, tu0, fi .none [(i 26), (i 4), (r 78)], co "ListThing" "ListThing" 329 24 0 0 68 false 69 .none .none .none 332 333, fr [(some (r 70)), (some (r 3)), (some (r 67)), none, (some (s "gemrows.things" 194)), none, (some (r 0))], tu [.none], tu0, fi0, tu [(s "self" 342), (s "number" 343), (s "owner" 344), (s "items" 345)], tu0, fc (me 9 0) "ListThing.__init__", co "__init__" "ListThing.__init__" 339 26 4 3 73 true 74 (r 75) (r 76) (r 77) 346 347, fo (me 9 0) "ListThing.__init__" (r 72) (s "gemrows.things" 194) (r 78), tu [(s "items" 349)], di [e P "__module__" 334 (s "gemrows.things" 194), e P "__firstlineno__" 338 (it 24 337), e P "__init__" 348 (r 79), e P "__static_attributes__" 350 (r 80), e P "__doc__" 351 .none] 2, cl "ListThing" "ListThing" [(r 40)] [(r 82), (r 40), (.type "object")] 81 true [] [(some (r 65)), none, (some (s "ListThing" 327)), (some (s "ListThing" 335)), (some (.builtin "object.__new__")), (some (.bool true))], fi (.type "super") [(r 82), (r 82), (r 82)], fi (.type "builtin_function_or_method") [(.builtin "object.__init_subclass__"), (r 82)], tu [(r 40)], fi (.type "builtin_function_or_method") [(.builtin "type.__prepare__"), (.type "type")], di [e P "__module__" 361 (s "gemrows.things" 194), e P "__qualname__" 363 (s "TableThing" 362), e P "__firstlineno__" 365 (it 29 364), e P "__init__" 374 (r 98), e P "put" 385 (r 105), e P "row" 393 (r 112), e P "pairs" 399 (r 117), e P "__static_attributes__" 402 (r 118)] 8, tu0, fi .none [(i 31), (i 4), (r 97), (i 36), (i 4), (r 104), (i 44), (i 4), (r 111), (i 47), (i 4), (r 116)], co "TableThing" "TableThing" 356 29 0 0 88 false 89 .none .none .none 359 360, fr [(some (r 90)), (some (r 3)), (some (r 87)), none, (some (s "gemrows.things" 194)), none, (some (r 0))], tu0, fi0, tu [(s "self" 369), (s "number" 370), (s "owner" 371)], tu0, fc (me 10 0) "TableThing.__init__", co "__init__" "TableThing.__init__" 366 31 3 3 92 true 93 (r 94) (r 95) (r 96) 372 373, fo (me 10 0) "TableThing.__init__" .none (s "gemrows.things" 194) (r 97), tu0, fi0, tu [(s "self" 378), (s "key" 379), (s "value" 380), (s "code" 381), (s "row" 382)], tu0, fc (me 10 1) "TableThing.put", co "put" "TableThing.put" 375 36 3 3 99 true 100 (r 101) (r 102) (r 103) 383 384, fo (me 10 1) "TableThing.put" .none (s "gemrows.things" 194) (r 104), tu0, fi0, tu [(s "self" 389), (s "key" 390)], tu0, fc (me 10 2) "TableThing.row", co "row" "TableThing.row" 386 44 2 3 106 true 107 (r 108) (r 109) (r 110) 391 392, fo (me 10 2) "TableThing.row" .none (s "gemrows.things" 194) (r 111), tu0, fi0, fc (me 10 3) "TableThing.pairs", co "pairs" "TableThing.pairs" 394 47 1 3 113 true 114 .none .none (r 115) 397 398, fo (me 10 3) "TableThing.pairs" .none (s "gemrows.things" 194) (r 116), tu [(s "rows" 400), (s "spare" 401)], di [e P "__module__" 361 (s "gemrows.things" 194), e P "__firstlineno__" 365 (it 29 364), e P "__init__" 374 (r 98), e P "put" 385 (r 105), e P "row" 393 (r 112), e P "pairs" 399 (r 117), e P "__static_attributes__" 402 (r 118), e P "__doc__" 403 .none] 2, cl "TableThing" "TableThing" [(r 40)] [(r 120), (r 40), (.type "object")] 119 true [] [(some (r 85)), none, (some (s "TableThing" 354)), (some (s "TableThing" 362)), (some (.builtin "object.__new__")), (some (.bool true))], fi (.type "super") [(r 120), (r 120), (r 120)], fi (.type "builtin_function_or_method") [(.builtin "object.__init_subclass__"), (r 120)], tu [(r 40)], fi (.type "builtin_function_or_method") [(.builtin "type.__prepare__"), (.type "type")], di [e P "__module__" 413 (s "gemrows.things" 194), e P "__qualname__" 415 (s "RangeThing" 414), e P "__firstlineno__" 417 (it 49 416), e P "__init__" 429 (r 137), e P "__static_attributes__" 433 (r 138)] 5, tu0, fi .none [(i 51), (i 4), (r 136)], co "RangeThing" "RangeThing" 408 49 0 0 126 false 127 .none .none .none 411 412, fr [(some (r 128)), (some (r 3)), (some (r 125)), none, (some (s "gemrows.things" 194)), none, (some (r 0))], tu [.none, .none, (.bool false)], tu0, fi0, tu [(s "self" 421), (s "number" 422), (s "owner" 423), (s "first" 424), (s "last" 425), (s "is_open" 426)], tu0, fc (me 11 0) "RangeThing.__init__", co "__init__" "RangeThing.__init__" 418 51 6 3 131 true 132 (r 133) (r 134) (r 135) 427 428, fo (me 11 0) "RangeThing.__init__" (r 130) (s "gemrows.things" 194) (r 136), tu [(s "first" 430), (s "last" 431), (s "open" 432)], di [e P "__module__" 413 (s "gemrows.things" 194), e P "__firstlineno__" 417 (it 49 416), e P "__init__" 429 (r 137), e P "__static_attributes__" 433 (r 138), e P "__doc__" 434 .none] 2, cl "RangeThing" "RangeThing" [(r 40)] [(r 140), (r 40), (.type "object")] 139 true [] [(some (r 123)), none, (some (s "RangeThing" 406)), (some (s "RangeThing" 414)), (some (.builtin "object.__new__")), (some (.bool true))], fi (.type "super") [(r 140), (r 140), (r 140)], fi (.type "builtin_function_or_method") [(.builtin "object.__init_subclass__"), (r 140)], tu [(r 40)], fi (.type "builtin_function_or_method") [(.builtin "type.__prepare__"), (.type "type")], di [e P "__module__" 444 (s "gemrows.things" 194), e P "__qualname__" 446 (s "ProcThing" 445), e P "__firstlineno__" 448 (it 56 447), e P "__init__" 466 (r 158), e P "__static_attributes__" 476 (r 159)] 5, tu0, fi .none [(i 58), (i 4), (r 157)], co "ProcThing" "ProcThing" 439 56 0 0 146 false 147 .none .none .none 442 443, fr [(some (r 148)), (some (r 3)), (some (r 145)), none, (some (s "gemrows.things" 194)), none, (some (r 0))], tu0, tu [.none, .none, .none, .none, (r 150), .none, .none, (.bool false), .none], tu0, fi0, tu [(s "self" 452), (s "number" 453), (s "owner" 454), (s "params" 455), (s "body" 456), (s "env" 457), (s "self_value" 458), (s "nesting" 459), (s "home" 460), (s "site" 461), (s "is_lambda" 462), (s "definer" 463)], tu0, fc (me 12 0) "ProcThing.__init__", co "__init__" "ProcThing.__init__" 449 58 12 3 152 true 153 (r 154) (r 155) (r 156) 464 465, fo (me 12 0) "ProcThing.__init__" (r 151) (s "gemrows.things" 194) (r 157), tu [(s "body" 467), (s "definer" 468), (s "env" 469), (s "home" 470), (s "is_lambda" 471), (s "nesting" 472), (s "params" 473), (s "self_value" 474), (s "site" 475)], di [e P "__module__" 444 (s "gemrows.things" 194), e P "__firstlineno__" 448 (it 56 447), e P "__init__" 466 (r 158), e P "__static_attributes__" 476 (r 159), e P "__doc__" 477 .none] 2, cl "ProcThing" "ProcThing" [(r 40)] [(r 161), (r 40), (.type "object")] 160 true [] [(some (r 143)), none, (some (s "ProcThing" 437)), (some (s "ProcThing" 445)), (some (.builtin "object.__new__")), (some (.bool true))], fi (.type "super") [(r 161), (r 161), (r 161)], fi (.type "builtin_function_or_method") [(.builtin "object.__init_subclass__"), (r 161)], tu [(r 40)], fi (.type "builtin_function_or_method") [(.builtin "type.__prepare__"), (.type "type")], di [e P "__module__" 487 (s "gemrows.things" 194), e P "__qualname__" 489 (s "ErrorThing" 488), e P "__firstlineno__" 491 (it 69 490), e P "__init__" 501 (r 178), e P "__static_attributes__" 504 (r 179)] 5, tu0, fi .none [(i 71), (i 4), (r 177)], co "ErrorThing" "ErrorThing" 482 69 0 0 167 false 168 .none .none .none 485 486, fr [(some (r 169)), (some (r 3)), (some (r 166)), none, (some (s "gemrows.things" 194)), none, (some (r 0))], tu [.none], tu0, fi0, tu [(s "self" 495), (s "number" 496), (s "owner" 497), (s "message" 498)], tu0, fc (me 13 0) "ErrorThing.__init__", co "__init__" "ErrorThing.__init__" 492 71 4 3 172 true 173 (r 174) (r 175) (r 176) 499 500, fo (me 13 0) "ErrorThing.__init__" (r 171) (s "gemrows.things" 194) (r 177), tu [(s "cause" 502), (s "message" 503)], di [e P "__module__" 487 (s "gemrows.things" 194), e P "__firstlineno__" 491 (it 69 490), e P "__init__" 501 (r 178), e P "__static_attributes__" 504 (r 179), e P "__doc__" 505 .none] 2, cl "ErrorThing" "ErrorThing" [(r 40)] [(r 181), (r 40), (.type "object")] 180 true [] [(some (r 164)), none, (some (s "ErrorThing" 480)), (some (s "ErrorThing" 488)), (some (.builtin "object.__new__")), (some (.bool true))], fi (.type "super") [(r 181), (r 181), (r 181)], fi (.type "builtin_function_or_method") [(.builtin "object.__init_subclass__"), (r 181)], tu [(r 40)], fi (.type "builtin_function_or_method") [(.builtin "type.__prepare__"), (.type "type")], di [e P "__module__" 515 (s "gemrows.things" 194), e P "__qualname__" 517 (s "FiberThing" 516), e P "__firstlineno__" 519 (it 75 518), e P "__init__" 529 (r 198), e P "__static_attributes__" 534 (r 199)] 5, tu0, fi .none [(i 77), (i 4), (r 197)], co "FiberThing" "FiberThing" 510 75 0 0 187 false 188 .none .none .none 513 514, fr [(some (r 189)), (some (r 3)), (some (r 186)), none, (some (s "gemrows.things" 194)), none, (some (r 0))], tu [.none], tu0, fi0, tu [(s "self" 523), (s "number" 524), (s "owner" 525), (s "proc" 526)], tu0, fc (me 14 0) "FiberThing.__init__", co "__init__" "FiberThing.__init__" 520 77 4 3 192 true 193 (r 194) (r 195) (r 196) 527 528, fo (me 14 0) "FiberThing.__init__" (r 191) (s "gemrows.things" 194) (r 197), tu [(s "back" 530), (s "proc" 531), (s "rows" 532), (s "state" 533)], di [e P "__module__" 515 (s "gemrows.things" 194), e P "__firstlineno__" 519 (it 75 518), e P "__init__" 529 (r 198), e P "__static_attributes__" 534 (r 199), e P "__doc__" 535 .none] 2, cl "FiberThing" "FiberThing" [(r 40)] [(r 201), (r 40), (.type "object")] 200 true [] [(some (r 184)), none, (some (s "FiberThing" 508)), (some (s "FiberThing" 516)), (some (.builtin "object.__new__")), (some (.bool true))], fi (.type "super") [(r 201), (r 201), (r 201)], fi (.type "builtin_function_or_method") [(.builtin "object.__init_subclass__"), (r 201)], tu [(r 40)], fi (.type "builtin_function_or_method") [(.builtin "type.__prepare__"), (.type "type")], di [e P "__module__" 545 (s "gemrows.things" 194), e P "__qualname__" 547 (s "ModuleThing" 546), e P "__firstlineno__" 549 (it 83 548), e P "__init__" 562 (r 218), e P "is_own" 569 (r 225), e P "__static_attributes__" 581 (r 226)] 6, tu0, fi .none [(i 85), (i 4), (r 217), (i 99), (i 4), (r 224)], co "ModuleThing" "ModuleThing" 540 83 0 0 207 false 208 .none .none .none 543 544, fr [(some (r 209)), (some (r 3)), (some (r 206)), none, (some (s "gemrows.things" 194)), none, (some (r 0))], o211, tu0, fi0, tu [(s "self" 553), (s "number" 554), (s "owner" 555), (s "name" 556), (s "is_class" 557), (s "parent" 558), (s "outer" 559)], tu0, fc (me 15 0) "ModuleThing.__init__", o217, o218, tu0, fi0, tu [(s "self" 566)], tu0, fc (me 15 1) "ModuleThing.is_own", o224, o225, tu [(s "ahead" 570), (s "attached" 571), (s "constants" 572), (s "is_class" 573), (s "kept" 574), (s "methods" 575), (s "mixed" 576), (s "name" 577), (s "native" 578), (s "outer" 579), (s "parent" 580)], o227 P, o228, fi (.type "super") [(r 228), (r 228), (r 228)], fi (.type "builtin_function_or_method") [(.builtin "object.__init_subclass__"), (r 228)], tu0, fi (.type "builtin_function_or_method") [(.builtin "type.__prepare__"), (.type "type")], di [e P "__module__" 592 (s "gemrows.things" 194), e P "__qualname__" 594 (s "Entry" 593), e P "__firstlineno__" 596 (it 101 595), e P "__init__" 610 (r 245), e P "moved" 621 (r 253), e P "__static_attributes__" 631 (r 254)] 6, tu0, fi .none [(i 103), (i 4), (r 244), (i 114), (i 4), (r 252)], co "Entry" "Entry" 587 101 0 0 234 false 235 .none .none .none 590 591, fr [(some (r 236)), (some (r 3)), (some (r 233)), none, (some (s "gemrows.things" 194)), none, (some (r 0))], o238, tu0, fi0, tu [(s "self" 601), (s "name" 602), (s "owner" 603), (s "sort" 604), (s "params" 605), (s "body" 606), (s "sight" 607)], tu0, fc (me 16 0) "Entry.__init__", o244, o245, tu [.none], tu0, fi0, tu [(s "self" 614), (s "name" 615), (s "owner" 616), (s "sight" 617), (s "found" 618)], tu0, fc (me 16 1) "Entry.moved", co "moved" "Entry.moved" 611 114 4 3 247 true 248 (r 249) (r 250) (r 251) 619 620, fo (me 16 1) "Entry.moved" (r 246) (s "gemrows.things" 194) (r 252), tu [(s "body" 622), (s "code" 623), (s "definer" 624), (s "name" 625), (s "nesting" 626), (s "owner" 627), (s "params" 628), (s "sight" 629), (s "sort" 630)], o255 P]
noncomputable def lC2 (P : Params) : List Obj := [fi (.type "getset_descriptor") [(s "__dict__" 632), (r 256), (.builtin "function.__dict__"), (.builtin "function.__dict__#set")], fi (.type "getset_descriptor") [(s "__weakref__" 634), (r 256), (.builtin "ExceptionGroup.__weakref__"), .none], fi (.type "super") [(r 256), (r 256), (r 256)], fi (.type "builtin_function_or_method") [(.builtin "object.__init_subclass__"), (r 256)]]
noncomputable def lD (P : Params) : List Obj := [tu0, fi0, tu [(s "value" 642)], tu0, fc (st 17) "sort_of", o266, o267, tu0, fi0, tu [(s "one" 649), (s "other" 650), (s "sort" 651)], tu0, fc (st 18) "same", o273, o274, tu0, fi0, tu [(s "room" 658), (s "many" 659)], tu0, fc (st 19) "takes_in", co "takes_in" "takes_in" 655 133 2 3 275 true 276 (r 277) (r 278) (r 279) 660 661, fo (st 19) "takes_in" .none (s "gemrows.things" 194) (r 280), tu [(it 12 260), .none], tu0, fi0, fc (st 20) "code_of", co "code_of" "code_of" 663 138 3 3 283 true 284 .none .none (r 285) 666 667, fo (st 20) "code_of" (r 282) (s "gemrows.things" 194) (r 286), tu0, fi0, tu [(s "text" 672), (s "letter" 673)], tu0, fc (st 21) "is_word", co "is_word" "is_word" 669 153 1 3 288 true 289 (r 290) (r 291) (r 292) 674 675, fo (st 21) "is_word" .none (s "gemrows.things" 194) (r 293), tu0, fi0, fc (st 22) "is_figures", co "is_figures" "is_figures" 677 160 1 3 295 true 296 .none .none (r 297) 680 681, fo (st 22) "is_figures" .none (s "gemrows.things" 194) (r 298), tu0, fi0, tu [(s "name" 686)], tu0, fc (st 23) "is_label", co "is_label" "is_label" 683 162 1 3 300 true 301 (r 302) (r 303) (r 304) 687 688, fo (st 23) "is_label" .none (s "gemrows.things" 194) (r 305), tu0, fi0, tu [(s "name" 693)], tu0, fc (st 24) "is_plain_symbol", co "is_plain_symbol" "is_plain_symbol" 690 164 1 3 307 true 308 (r 309) (r 310) (r 311) 694 695, fo (st 24) "is_plain_symbol" .none (s "gemrows.things" 194) (r 312), tu0, fi0, tu [(s "module" 700), (s "ahead" 701), (s "behind" 702), (s "met" 703)], tu0, fc (st 25) "full_name", o319, o320, tu0, fi0, tu [(s "letter" 710), (s "follower" 711), (s "number" 712), (s "figures" 713)], tu0, fc (st 26) "show_letter", co "show_letter" "show_letter" 707 189 2 3 321 true 322 (r 323) (r 324) (r 325) 714 715, fo (st 26) "show_letter" .none (s "gemrows.things" 194) (r 326), tu0, fi0, fc (st 27) "show_text", co "show_text" "show_text" 717 199 1 3 328 true 329 .none .none (r 330) 720 721, fo (st 27) "show_text" .none (s "gemrows.things" 194) (r 331), tu0, fi0, tu [(s "name" 726)], tu0, fc (st 28) "show_symbol", co "show_symbol" "show_symbol" 723 202 1 3 333 true 334 (r 335) (r 336) (r 337) 727 728, fo (st 28) "show_symbol" .none (s "gemrows.things" 194) (r 338), tu0, fi0, tu [(s "key" 733), (s "value" 734), (s "deep" 735), (s "room" 736)], tu0, fc (st 29) "show_pair", co "show_pair" "show_pair" 730 204 4 3 340 true 341 (r 342) (r 343) (r 344) 737 738, fo (st 29) "show_pair" .none (s "gemrows.things" 194) (r 345), tu0, fi0, tu [(s "value" 743), (s "deep" 744), (s "room" 745), (s "first" 746), (s "last" 747)], tu0, fc (st 30) "show_range", co "show_range" "show_range" 740 208 3 3 347 true 348 (r 349) (r 350) (r 351) 748 749, fo (st 30) "show_range" .none (s "gemrows.things" 194) (r 352), tu0, fi0, fc (st 31) "show_held", co "show_held" "show_held" 751 212 3 3 354 true 355 .none .none (r 356) 754 755, fo (st 31) "show_held" .none (s "gemrows.things" 194) (r 357), tu0, fi0, tu [(s "value" 760), (s "deep" 761), (s "room" 762), (s "name" 763), (s "told" 764)], tu0, fc (st 32) "show_thing", co "show_thing" "show_thing" 757 222 3 3 359 true 360 (r 361) (r 362) (r 363) 765 766, fo (st 32) "show_thing" .none (s "gemrows.things" 194) (r 364), tu [(it 6 768), .none], tu0, fi0, tu [(s "error" 772), (s "deep" 773), (s "room" 774), (s "met" 775), (s "message" 776)], tu0, fc (st 33) "message_text", co "message_text" "message_text" 769 236 3 3 367 true 368 (r 369) (r 370) (r 371) 777 778, fo (st 33) "message_text" (r 366) (s "gemrows.things" 194) (r 372), tu [(it 6 780), .none], tu0, fi0, tu [(s "value" 784), (s "deep" 785), (s "room" 786), (s "sort" 787)], tu0, fc (st 34) "show", co "show" "show" 781 247 3 3 375 true 376 (r 377) (r 378) (r 379) 788 789, fo (st 34) "show" (r 374) (s "gemrows.things" 194) (r 380), tu0, fi0, tu [(s "things" 796), (s "one" 797), (s "thing" 798)], tu0, fc (st 36) "has_thing", o387, o388, tu0, fi0, fc (st 37) "own_line", o392, o393, tu0, fi0, fc (st 38) "numbered", o397, o398, tu0, fi0, fc (st 39) "made_line", o402, o403, tu0, fi0, tu [(s "world" 823), (s "module" 824), (s "waiting" 825), (s "line" 826), (s "one" 827)], tu0, fc (st 40) "line_of", o409, o410, tu [(s "initialize" 831), (s "initialize_copy" 832), (s "method_missing" 833), (s "respond_to_missing?" 834)], tu [(s "puts" 836), (s "print" 837), (s "p" 838), (s "raise" 839), (s "loop" 840), (s "catch" 841), (s "throw" 842), (s "proc" 843), (s "lambda" 844), (s "block_given?" 845), (s "Array" 846), (s "Integer" 847), (s "__write" 848)], tu [(r 256)], fi (.type "builtin_function_or_method") [(.builtin "type.__prepare__"), (.type "type")], di [e P "__module__" 857 (s "gemrows.lines" 791), e P "__qualname__" 859 (s "GivenEntry" 858), e P "__firstlineno__" 861 (it 300 860), e P "__static_attributes__" 862 (r 420)] 4, tu0, fi0, co "GivenEntry" "GivenEntry" 852 300 0 0 416 false 417 .none .none .none 855 856, fr [(some (r 418)), (some (r 3)), (some (r 415)), none, (some (s "gemrows.lines" 791)), none, (some (r 0))], tu0, o421 P, o422, fi (.type "super") [(r 422), (r 422), (r 422)], fi (.type "builtin_function_or_method") [(.builtin "object.__init_subclass__"), (r 422)], tu0, fi0, tu [(s "module" 869), (s "name" 870)], tu0, fc (st 44) "sight_of", o430, o431, tu0, fi0, tu [(s "world" 877), (s "module" 878), (s "name" 879), (s "body" 880), (s "sort" 881), (s "source" 882), (s "node" 883), (s "singleton" 884), (s "told" 885), (s "params" 886), (s "tree" 887)], tu0, fc (st 45) "given_entry", o437, o438, tu0, fi0, tu [(s "world" 894), (s "module" 895), (s "name" 896), (s "found" 897)], tu0, fc (st 46) "entry_at", o444, o445, tu0, fi0, tu [(s "world" 904), (s "line" 905), (s "name" 906), (s "sight" 907), (s "module" 908), (s "found" 909)], tu0, fc (st 47) "first_entry", o451, o452, tu0, fi0, tu [(s "world" 916), (s "module" 917), (s "name" 918)], tu0, fc (st 48) "find", o458, o459, tu0, fi0, tu [(s "world" 925), (s "module" 926), (s "owner" 927), (s "name" 928), (s "line" 929), (s "place" 930), (s "one" 931)], tu0, fc (st 49) "find_behind", o465, o466, tu0, fi0, tu [(s "world" 938)], tu0, fc (st 50) "raise_version", o472, o473, tu0, fi0, tu [(s "world" 945), (s "module" 946), (s "thing" 947), (s "word" 948)], tu0, fc (st 51) "need_unfrozen", o479, o480, tu0, fi0, tu [(s "world" 955), (s "value" 956), (s "waiting" 957), (s "one" 958)], tu0, fc (st 52) "own_module", o486, o487, tu0, fi0, tu [(s "value" 965)], tu0, fc (st 53) "class_above", o493, o494, tu0, fi0, tu [(s "world" 972), (s "value" 973), (s "above" 974), (s "parent" 975)], tu0, fc (st 54) "make_own", o500, o501, tu0, fi0, tu [(s "world" 982), (s "module" 983), (s "entry" 984)], tu0, fc (st 55) "define", o507, o508, tu0, fi0, tu [(s "module" 991)], tu0, fc (st 56) "kind_word", o514, o515, tu0, fi0, tu [(s "entry" 998), (s "sight" 999)], tu0, fc (st 57) "copied", o521, o522, tu0, fi0, tu [(s "world" 1006), (s "module" 1007), (s "mixin" 1008), (s "word" 1009), (s "told" 1010)], tu0, fc (st 58) "need_mixin", o528, o529, tu0, fi0, tu [(s "world" 1017), (s "module" 1018), (s "mixin" 1019)], tu0, fc (st 59) "include", o535, o536, tu0, fi0, fc (st 60) "prepend", o540, o541, tu [(.type "ValueError")], fi (.type "builtin_function_or_method") [(.builtin "type.__prepare__"), (.type "type")], di [e P "__module__" 1038 (s "gemrows.errors" 1029), e P "__qualname__" 1040 (s "GemError" 1039), e P "__firstlineno__" 1042 (it 403 1041), e P "__init__" 1051 (r 556), e P "__static_attributes__" 1053 (r 557)] 5, tu0, fi .none [(i 405), (i 4), (r 555)], co "GemError" "GemError" 1033 403 0 0 545 false 546 .none .none .none 1036 1037, fr [(some (r 547)), (some (r 3)), (some (r 544)), none, (some (s "gemrows.errors" 1029)), none, (some (r 0))], tu [(s "" 1043)], tu0, fi0, tu [(s "self" 1047), (s "reason" 1048)], tu0, fc (me 62 0) "GemError.__init__", co "__init__" "GemError.__init__" 1044 405 2 3 550 true 551 (r 552) (r 553) (r 554) 1049 1050, fo (me 62 0) "GemError.__init__" (r 549) (s "gemrows.errors" 1029) (r 555), tu [(s "reason" 1052)], di [e P "__module__" 1038 (s "gemrows.errors" 1029), e P "__firstlineno__" 1042 (it 403 1041), e P "__init__" 1051 (r 556), e P "__static_attributes__" 1053 (r 557), e P "__weakref__" 1055 (r 560), e P "__doc__" 1056 .none] 3, cl "GemError" "GemError" [(.type "ValueError")] [(r 559), (.type "ValueError"), (.type "Exception"), (.type "BaseException"), (.type "object")] 558 true [(r 579)] [(some (r 542)), none, (some (s "GemError" 1031)), (some (s "GemError" 1039)), (some (.builtin "ValueError.__new__")), (some (.bool true))], fi (.type "getset_descriptor") [(s "__weakref__" 1054), (r 559), (.builtin "ExceptionGroup.__weakref__"), .none], fi (.type "super") [(r 559), (r 559), (r 559)], fi (.type "builtin_function_or_method") [(.builtin "object.__init_subclass__"), (r 559)], tu [(r 559)], fi (.type "builtin_function_or_method") [(.builtin "type.__prepare__"), (.type "type")], di [e P "__module__" 1066 (s "gemrows.errors" 1029), e P "__qualname__" 1068 (s "Raised" 1067), e P "__firstlineno__" 1070 (it 408 1069), e P "__init__" 1078 (r 576), e P "__static_attributes__" 1080 (r 577)] 5, tu0, fi .none [(i 410), (i 4), (r 575)], co "Raised" "Raised" 1061 408 0 0 566 false 567 .none .none .none 1064 1065, fr [(some (r 568)), (some (r 3)), (some (r 565)), none, (some (s "gemrows.errors" 1029)), none, (some (r 0))], tu0, fi0, tu [(s "self" 1074), (s "thing" 1075)], tu0, fc (me 63 0) "Raised.__init__", co "__init__" "Raised.__init__" 1071 410 2 3 570 true 571 (r 572) (r 573) (r 574) 1076 1077, fo (me 63 0) "Raised.__init__" .none (s "gemrows.errors" 1029) (r 575), tu [(s "thing" 1079)], di [e P "__module__" 1066 (s "gemrows.errors" 1029), e P "__firstlineno__" 1070 (it 408 1069), e P "__init__" 1078 (r 576), e P "__static_attributes__" 1080 (r 577), e P "__doc__" 1081 .none] 2, cl "Raised" "Raised" [(r 559)] [(r 579), (r 559), (.type "ValueError"), (.type "Exception"), (.type "BaseException"), (.type "object")] 578 true [] [(some (r 563)), none, (some (s "Raised" 1059)), (some (s "Raised" 1067)), (some (.builtin "ValueError.__new__")), (some (.bool true))], fi (.type "super") [(r 579), (r 579), (r 579)], fi (.type "builtin_function_or_method") [(.builtin "object.__init_subclass__"), (r 579)], o582]
noncomputable def lF (P : Params) : List Obj := [o583 P, di [e P "Proc" 1137 (s "Object" 1138), e P "Fiber" 1140 (s "Object" 1141), e P "Exception" 1143 (s "Object" 1144), e P "ScriptError" 1146 (s "Exception" 1147), e P "NotImplementedError" 1149 (s "ScriptError" 1150), e P "SystemStackError" 1152 (s "Exception" 1153), e P "StandardError" 1155 (s "Exception" 1156), e P "ArgumentError" 1158 (s "StandardError" 1159), e P "UncaughtThrowError" 1161 (s "ArgumentError" 1162), e P "FiberError" 1164 (s "StandardError" 1165), e P "IndexError" 1167 (s "StandardError" 1168), e P "KeyError" 1170 (s "IndexError" 1171), e P "StopIteration" 1173 (s "IndexError" 1174), e P "LocalJumpError" 1176 (s "StandardError" 1177), e P "NameError" 1179 (s "StandardError" 1180), e P "NoMethodError" 1182 (s "NameError" 1183), e P "NoMatchingPatternError" 1185 (s "StandardError" 1186)] 17, di [e P "NoMatchingPatternKeyError" 1188 (s "NoMatchingPatternError" 1189), e P "RangeError" 1190 (s "StandardError" 1191), e P "RuntimeError" 1192 (s "StandardError" 1193), e P "FrozenError" 1194 (s "RuntimeError" 1195), e P "TypeError" 1196 (s "StandardError" 1197), e P "ZeroDivisionError" 1198 (s "StandardError" 1199)] 6, o586 P, o587, o588, o589, o590, o591, o592, o593]
noncomputable def lG (P : Params) : List Obj := [tu [(s "NilClass" 1229), (s "TrueClass" 1230), (s "FalseClass" 1231), (s "Integer" 1232), (s "Symbol" 1233)], tu0, fi (.type "builtin_function_or_method") [(.builtin "type.__prepare__"), (.type "type")], di [e P "__module__" 1242 (s "gemrows.world" 1084), e P "__qualname__" 1244 (s "World" 1243), e P "__firstlineno__" 1246 (it 418 1245), e P "__init__" 1259 (r 609), e P "tick" 1266 (r 616), e P "write" 1274 (r 623), e P "number" 1281 (r 630), e P "next_ident" 1288 (r 637), e P "ident" 1297 (r 644), e P "builtin" 1306 (r 651), e P "make_builtin" 1312 (r 656), e P "give_own" 1320 (r 663), e P "new_module" 1335 (r 671), e P "class_of" 1343 (r 678), e P "own_of" 1351 (r 685), e P "own_behind" 1359 (r 692), e P "root_of" 1367 (r 699), e P "real_class" 1375 (r 706), e P "text" 1383 (r 713), e P "list_of" 1391 (r 720), e P "table_of" 1399 (r 727), e P "key_of" 1407 (r 734), e P "range_of" 1417 (r 741), e P "proc" 1434 (r 748), e P "thing" 1444 (r 755), e P "is_error_class" 1452 (r 762), e P "spread" 1460 (r 769), e P "numbers_of" 1468 (r 776), e P "need_size" 1476 (r 783), e P "sized_text" 1484 (r 790), e P "error" 1493 (r 797), e P "fail" 1502 (r 804), e P "need_thawed" 1510 (r 811), e P "set_field" 1520 (r 818), e P "describe" 1528 (r 825), e P "own_constant" 1537 (r 832), e P "find_constant" 1546 (r 839), e P "constant" 1555 (r 846), e P "find_in" 1564 (r 853), e P "constant_in" 1573 (r 860), e P "set_constant" 1583 (r 867), e P "__static_attributes__" 1600 (r 868)] 42, tu0, fi .none [(i 420), (i 4), (r 608), (i 441), (i 4), (r 615), (i 444), (i 4), (r 622), (i 447), (i 4), (r 629), (i 451), (i 4), (r 636), (i 455), (i 4), (r 643), (i 471), (i 4), (r 650), (i 475), (i 4), (r 655), (i 488), (i 4), (r 662), (i 492), (i 4), (r 670), (i 501), (i 4), (r 677), (i 510), (i 4), (r 684), (i 513), (i 4), (r 691), (i 516), (i 4), (r 698), (i 521), (i 4), (r 705), (i 526), (i 4), (r 712), (i 529), (i 4), (r 719), (i 532), (i 4), (r 726), (i 535), (i 4), (r 733), (i 538), (i 4), (r 740), (i 541), (i 4), (r 747), (i 545), (i 4), (r 754), (i 571), (i 4), (r 761), (i 578), (i 4), (r 768), (i 581), (i 4), (r 775), (i 584), (i 4), (r 782), (i 587), (i 4), (r 789), (i 590), (i 4), (r 796), (i 593), (i 4), (r 803), (i 596), (i 4), (r 810), (i 599), (i 4), (r 817), (i 602), (i 4), (r 824), (i 605), (i 4), (r 831), (i 608), (i 4), (r 838), (i 611), (i 4), (r 845), (i 614), (i 4), (r 852), (i 617), (i 4), (r 859), (i 620), (i 4), (r 866)], co "World" "World" 1237 418 0 0 598 false 599 .none .none .none 1240 1241, fr [(some (r 600)), (some (r 3)), (some (r 597)), none, (some (s "gemrows.world" 1084)), none, (some (r 0))], o602, tu0, fi0, tu [(s "self" 1251), (s "natives" 1252), (s "prelude" 1253), (s "read" 1254), (s "most" 1255), (s "name" 1256)], tu0, fc (me 69 0) "World.__init__", o608, o609, tu0, fi0, tu [(s "self" 1263)], tu0, fc (me 69 1) "World.tick", co "tick" "World.tick" 1260 441 1 3 610 true 611 (r 612) (r 613) (r 614) 1264 1265, fo (me 69 1) "World.tick" .none (s "gemrows.world" 1084) (r 615), tu0, fi0, tu [(s "self" 1270), (s "text" 1271)], tu0, fc (me 69 2) "World.write", co "write" "World.write" 1267 444 2 3 617 true 618 (r 619) (r 620) (r 621) 1272 1273, fo (me 69 2) "World.write" .none (s "gemrows.world" 1084) (r 622), tu0, fi0, tu [(s "self" 1278)], tu0, fc (me 69 3) "World.number", o629, o630, tu0, fi0, tu [(s "self" 1285)], tu0, fc (me 69 4) "World.next_ident", co "next_ident" "World.next_ident" 1282 451 1 3 631 true 632 (r 633) (r 634) (r 635) 1286 1287, fo (me 69 4) "World.next_ident" .none (s "gemrows.world" 1084) (r 636), tu0, fi0, tu [(s "self" 1292), (s "value" 1293), (s "sort" 1294)], tu0, fc (me 69 5) "World.ident", co "ident" "World.ident" 1289 455 2 3 638 true 639 (r 640) (r 641) (r 642) 1295 1296, fo (me 69 5) "World.ident" .none (s "gemrows.world" 1084) (r 643), tu0, fi0, tu [(s "self" 1301), (s "name" 1302), (s "found" 1303)], tu0, fc (me 69 6) "World.builtin", o650, o651, tu0, fi0, fc (me 69 7) "World.make_builtin", o655, o656, tu0, fi0, tu [(s "self" 1316), (s "name" 1317)], tu0, fc (me 69 8) "World.give_own", o662, o663, o664, tu0, fi0, tu [(s "self" 1324), (s "name" 1325), (s "is_class" 1326), (s "parent" 1327), (s "outer" 1328), (s "attached" 1329), (s "owner" 1330), (s "stands" 1331), (s "found" 1332)], tu0, fc (me 69 9) "World.new_module", o670, o671, tu0, fi0, tu [(s "self" 1339), (s "value" 1340)], tu0, fc (me 69 10) "World.class_of", o677, o678, tu0, fi0, tu [(s "self" 1347), (s "value" 1348)], tu0, fc (me 69 11) "World.own_of", co "own_of" "World.own_of" 1344 510 2 3 679 true 680 (r 681) (r 682) (r 683) 1349 1350, fo (me 69 11) "World.own_of" .none (s "gemrows.world" 1084) (r 684), tu0, fi0, tu [(s "self" 1355), (s "module" 1356)], tu0, fc (me 69 12) "World.own_behind", co "own_behind" "World.own_behind" 1352 513 2 3 686 true 687 (r 688) (r 689) (r 690) 1357 1358, fo (me 69 12) "World.own_behind" .none (s "gemrows.world" 1084) (r 691), tu0, fi0, tu [(s "self" 1363), (s "module" 1364)], tu0, fc (me 69 13) "World.root_of", co "root_of" "World.root_of" 1360 516 2 3 693 true 694 (r 695) (r 696) (r 697) 1365 1366, fo (me 69 13) "World.root_of" .none (s "gemrows.world" 1084) (r 698), tu0, fi0, tu [(s "self" 1371), (s "module" 1372)], tu0, fc (me 69 14) "World.real_class", co "real_class" "World.real_class" 1368 521 2 3 700 true 701 (r 702) (r 703) (r 704) 1373 1374, fo (me 69 14) "World.real_class" .none (s "gemrows.world" 1084) (r 705), tu0, fi0, tu [(s "self" 1379), (s "text" 1380)], tu0, fc (me 69 15) "World.text", co "text" "World.text" 1376 526 2 3 707 true 708 (r 709) (r 710) (r 711) 1381 1382, fo (me 69 15) "World.text" .none (s "gemrows.world" 1084) (r 712), tu0, fi0, tu [(s "self" 1387), (s "items" 1388)], tu0, fc (me 69 16) "World.list_of", co "list_of" "World.list_of" 1384 529 2 3 714 true 715 (r 716) (r 717) (r 718) 1389 1390, fo (me 69 16) "World.list_of" .none (s "gemrows.world" 1084) (r 719), tu0, fi0, tu [(s "self" 1395), (s "pairs" 1396)], tu0, fc (me 69 17) "World.table_of", co "table_of" "World.table_of" 1392 532 2 3 721 true 722 (r 723) (r 724) (r 725) 1397 1398, fo (me 69 17) "World.table_of" .none (s "gemrows.world" 1084) (r 726), tu0, fi0, tu [(s "self" 1403), (s "key" 1404)], tu0, fc (me 69 18) "World.key_of", co "key_of" "World.key_of" 1400 535 2 3 728 true 729 (r 730) (r 731) (r 732) 1405 1406, fo (me 69 18) "World.key_of" .none (s "gemrows.world" 1084) (r 733), tu0, fi0, tu [(s "self" 1411), (s "first" 1412), (s "last" 1413), (s "is_open" 1414)], tu0, fc (me 69 19) "World.range_of", co "range_of" "World.range_of" 1408 538 4 3 735 true 736 (r 737) (r 738) (r 739) 1415 1416, fo (me 69 19) "World.range_of" .none (s "gemrows.world" 1084) (r 740), tu0, fi0, tu [(s "self" 1421), (s "params" 1422), (s "body" 1423), (s "env" 1424), (s "self_value" 1425), (s "nesting" 1426), (s "home" 1427), (s "site" 1428), (s "is_lambda" 1429), (s "definer" 1430), (s "owner" 1431)], tu0, fc (me 69 20) "World.proc", co "proc" "World.proc" 1418 541 10 3 742 true 743 (r 744) (r 745) (r 746) 1432 1433, fo (me 69 20) "World.proc" .none (s "gemrows.world" 1084) (r 747), tu0, fi0, tu [(s "self" 1438), (s "module" 1439), (s "root" 1440), (s "number" 1441)], tu0, fc (me 69 21) "World.thing", co "thing" "World.thing" 1435 545 2 3 749 true 750 (r 751) (r 752) (r 753) 1442 1443, fo (me 69 21) "World.thing" .none (s "gemrows.world" 1084) (r 754), tu0, fi0, tu [(s "self" 1448), (s "module" 1449)], tu0, fc (me 69 22) "World.is_error_class", co "is_error_class" "World.is_error_class" 1445 571 2 3 756 true 757 (r 758) (r 759) (r 760) 1450 1451, fo (me 69 22) "World.is_error_class" .none (s "gemrows.world" 1084) (r 761), tu0, fi0, tu [(s "self" 1456), (s "value" 1457)], tu0, fc (me 69 23) "World.spread", co "spread" "World.spread" 1453 578 2 3 763 true 764 (r 765) (r 766) (r 767) 1458 1459, fo (me 69 23) "World.spread" .none (s "gemrows.world" 1084) (r 768), tu0, fi0, tu [(s "self" 1464), (s "value" 1465)], tu0, fc (me 69 24) "World.numbers_of", co "numbers_of" "World.numbers_of" 1461 581 2 3 770 true 771 (r 772) (r 773) (r 774) 1466 1467, fo (me 69 24) "World.numbers_of" .none (s "gemrows.world" 1084) (r 775), tu0, fi0, tu [(s "self" 1472), (s "count" 1473)], tu0, fc (me 69 25) "World.need_size", co "need_size" "World.need_size" 1469 584 2 3 777 true 778 (r 779) (r 780) (r 781) 1474 1475, fo (me 69 25) "World.need_size" .none (s "gemrows.world" 1084) (r 782), tu0, fi0, tu [(s "self" 1480), (s "text" 1481)], tu0, fc (me 69 26) "World.sized_text", co "sized_text" "World.sized_text" 1477 587 2 3 784 true 785 (r 786) (r 787) (r 788) 1482 1483, fo (me 69 26) "World.sized_text" .none (s "gemrows.world" 1084) (r 789), tu0, fi0, tu [(s "self" 1488), (s "name" 1489), (s "message" 1490)], tu0, fc (me 69 27) "World.error", co "error" "World.error" 1485 590 3 3 791 true 792 (r 793) (r 794) (r 795) 1491 1492, fo (me 69 27) "World.error" .none (s "gemrows.world" 1084) (r 796), tu0, fi0, tu [(s "self" 1497), (s "name" 1498), (s "message" 1499)], tu0, fc (me 69 28) "World.fail", co "fail" "World.fail" 1494 593 3 3 798 true 799 (r 800) (r 801) (r 802) 1500 1501, fo (me 69 28) "World.fail" .none (s "gemrows.world" 1084) (r 803), tu0, fi0, tu [(s "self" 1506), (s "value" 1507)], tu0, fc (me 69 29) "World.need_thawed", co "need_thawed" "World.need_thawed" 1503 596 2 3 805 true 806 (r 807) (r 808) (r 809) 1508 1509, fo (me 69 29) "World.need_thawed" .none (s "gemrows.world" 1084) (r 810), tu0, fi0, tu [(s "self" 1514), (s "value" 1515), (s "name" 1516), (s "item" 1517)], tu0, fc (me 69 30) "World.set_field", co "set_field" "World.set_field" 1511 599 4 3 812 true 813 (r 814) (r 815) (r 816) 1518 1519, fo (me 69 30) "World.set_field" .none (s "gemrows.world" 1084) (r 817), tu0, fi0, tu [(s "self" 1524), (s "value" 1525)], tu0, fc (me 69 31) "World.describe", co "describe" "World.describe" 1521 602 2 3 819 true 820 (r 821) (r 822) (r 823) 1526 1527, fo (me 69 31) "World.describe" .none (s "gemrows.world" 1084) (r 824), tu0, fi0, tu [(s "self" 1532), (s "module" 1533), (s "name" 1534)], tu0, fc (me 69 32) "World.own_constant", co "own_constant" "World.own_constant" 1529 605 3 3 826 true 827 (r 828) (r 829) (r 830) 1535 1536, fo (me 69 32) "World.own_constant" .none (s "gemrows.world" 1084) (r 831), tu0, fi0, tu [(s "self" 1541), (s "nesting" 1542), (s "name" 1543)], tu0, fc (me 69 33) "World.find_constant", co "find_constant" "World.find_constant" 1538 608 3 3 833 true 834 (r 835) (r 836) (r 837) 1544 1545, fo (me 69 33) "World.find_constant" .none (s "gemrows.world" 1084) (r 838), tu0, fi0, tu [(s "self" 1550), (s "nesting" 1551), (s "name" 1552)], tu0, fc (me 69 34) "World.constant", co "constant" "World.constant" 1547 611 3 3 840 true 841 (r 842) (r 843) (r 844) 1553 1554, fo (me 69 34) "World.constant" .none (s "gemrows.world" 1084) (r 845), tu0, fi0, tu [(s "self" 1559), (s "module" 1560), (s "name" 1561)], tu0, fc (me 69 35) "World.find_in", co "find_in" "World.find_in" 1556 614 3 3 847 true 848 (r 849) (r 850) (r 851) 1562 1563, fo (me 69 35) "World.find_in" .none (s "gemrows.world" 1084) (r 852), tu0, fi0, tu [(s "self" 1568), (s "module" 1569), (s "name" 1570)], tu0, fc (me 69 36) "World.constant_in", co "constant_in" "World.constant_in" 1565 617 3 3 854 true 855 (r 856) (r 857) (r 858) 1571 1572, fo (me 69 36) "World.constant_in" .none (s "gemrows.world" 1084) (r 859), tu0, fi0, tu [(s "self" 1577), (s "module" 1578), (s "name" 1579), (s "value" 1580)], tu0, fc (me 69 37) "World.set_constant", co "set_constant" "World.set_constant" 1574 620 4 3 861 true 862 (r 863) (r 864) (r 865) 1581 1582, fo (me 69 37) "World.set_constant" .none (s "gemrows.world" 1084) (r 866), tu [(s "const_version" 1584), (s "globals" 1585), (s "here" 1586), (s "is_ready" 1587), (s "last_ident" 1588), (s "last_number" 1589), (s "made" 1590), (s "main" 1591), (s "most" 1592), (s "natives" 1593), (s "out" 1594), (s "prelude" 1595), (s "read" 1596), (s "symbol_idents" 1597), (s "taken" 1598), (s "version" 1599)], o869 P, o870, fi (.type "getset_descriptor") [(s "__dict__" 1601), (r 870), (.builtin "function.__dict__"), (.builtin "function.__dict__#set")], fi (.type "getset_descriptor") [(s "__weakref__" 1603), (r 870), (.builtin "ExceptionGroup.__weakref__"), .none], fi (.type "super") [(r 870), (r 870), (r 870)], fi (.type "builtin_function_or_method") [(.builtin "object.__init_subclass__"), (r 870)], tu0, fi0, tu [(s "world" 1613), (s "module" 1614), (s "name" 1615), (s "body" 1616)], tu0, fc (st 71) "_law_put", o880, o881, tu0, fi0, tu [(s "entry" 1623)], tu0, fc (st 72) "_law_plain", o887, o888, tu0, fi0, fc (st 73) "_law_levels_right", o892, o893, tu0, fi0, fc (st 74) "_law_classes_right", o897, o898, tu0, fi0, tu [(s "script" 1642), (s "mark" 1643)], tu0, fc (st 75) "law", o904, o905]
noncomputable def objsB (P : Params) : List Obj := lo P (mnb P) cnb []
noncomputable def objsA (P : Params) : List Obj := lo P (mna P) cna (lA P)
noncomputable def objsC (P : Params) : List Obj := lo P (mnc P) cnc ((lA P).append ((lC P).append (entO [] :: lC2 P)))
noncomputable def objsD (P : Params) : List Obj := lo P (mnd P) cnd ((lA P).append ((lC P).append (entO [r 422] :: (lC2 P).append (lD P))))
noncomputable def objsF (P : Params) : List Obj := lo P (mnf P) cnd ((lA P).append ((lC P).append (entO [r 422] :: (lC2 P).append ((lD P).append (lF P)))))
noncomputable def objsG (P : Params) : List Obj := lo P (mng P) cng ((lA P).append ((lC P).append (entO [r 422] :: (lC2 P).append ((lD P).append ((lF P).append (lG P))))))
noncomputable def alt (b : Bool) : List Obj → List Obj
  | [] => []
  | x :: l => match b with
    | true => x :: alt false l
    | false => alt true l
noncomputable def ofL : Nat → List Obj → BT
  | 0, _ => .nil
  | _ + 1, [] => .nil
  | n + 1, x :: l => .node x (ofL n (alt true l)) (ofL n (alt false l))
noncomputable def sT (l : List Obj) (n t : Nat) (os : OsState) : SharedT := ⟨ofL 11 l, n, {}, #[], {}, t, os⟩
noncomputable def envE : Env := { scope := pw.main.scope, locals := mainNs, globals := mainNs, cells := [], code := .ref 13, frame := some 14 }
noncomputable def bE : List Stmt := behindTheImports pw
noncomputable def cE : Code := .body bE envE
noncomputable def dropS : Nat → List Stmt → List Stmt
  | 0, l => l
  | n + 1, l => dropS n l.tail
noncomputable def takeS : Nat → List Stmt → List Stmt
  | 0, _ => []
  | _ + 1, [] => []
  | n + 1, x :: l => x :: takeS n l
noncomputable def sts (a n : Nat) : List Stmt := takeS n (dropS a pw.main.body)
noncomputable def p0 : Pos := ⟨0, 0, 0, 0⟩
noncomputable abbrev fB : List Frame := [topFrame p0]
abbrev an6 : Option Value := some (.ref 6)
noncomputable abbrev goT (w : World) (n : Nat) (s : SharedT) (l : List Stmt) (p : Pos) := segRunT treeTable pw w 11 an6 1 n s (piecesOf l envE cE p fB)
noncomputable abbrev toT (s : SharedT) (p : Pos) : Option (Flow × SharedT × Code × Pos) := some (.next, s, cE, p)
noncomputable def KF (P : Params) : Frag := [(2, boot_o_2 P), (3, mng P), (36, o36), (37, o37), (39, o39 P), (40, o40), (211, o211), (217, o217), (218, o218), (224, o224), (225, o225), (227, o227 P), (228, o228), (238, o238), (244, o244), (245, o245), (255, o255 P), (256, entO [r 422]), (266, o266), (267, o267), (273, o273), (274, o274), (319, o319), (320, o320), (387, o387), (388, o388), (392, o392), (393, o393), (397, o397), (398, o398), (402, o402), (403, o403), (409, o409), (410, o410), (421, o421 P), (422, o422), (430, o430), (431, o431), (437, o437), (438, o438), (444, o444), (445, o445), (451, o451), (452, o452), (458, o458), (459, o459), (465, o465), (466, o466), (472, o472), (473, o473), (479, o479), (480, o480), (486, o486), (487, o487), (493, o493), (494, o494), (500, o500), (501, o501), (507, o507), (508, o508), (514, o514), (515, o515), (521, o521), (522, o522), (528, o528), (529, o529), (535, o535), (536, o536), (540, o540), (541, o541), (582, o582), (583, o583 P), (586, o586 P), (587, o587), (588, o588), (589, o589), (590, o590), (591, o591), (592, o592), (593, o593), (602, o602), (608, o608), (609, o609), (629, o629), (630, o630), (650, o650), (651, o651), (655, o655), (656, o656), (662, o662), (663, o663), (664, o664), (670, o670), (671, o671), (677, o677), (678, o678), (869, o869 P), (870, o870), (880, o880), (881, o881), (887, o887), (888, o888), (892, o892), (893, o893), (897, o897), (898, o898), (904, o904), (905, o905)]
noncomputable def KA : List Addr := [2, 3, 36, 37, 39, 40, 211, 217, 218, 224, 225, 227, 228, 238, 244, 245, 255, 256, 266, 267, 273, 274, 319, 320, 387, 388, 392, 393, 397, 398, 402, 403, 409, 410, 421, 422, 430, 431, 437, 438, 444, 445, 451, 452, 458, 459, 465, 466, 472, 473, 479, 480, 486, 487, 493, 494, 500, 501, 507, 508, 514, 515, 521, 522, 528, 529, 535, 536, 540, 541, 582, 583, 586, 587, 588, 589, 590, 591, 592, 593, 602, 608, 609, 629, 630, 650, 651, 655, 656, 662, 663, 664, 670, 671, 677, 678, 869, 870, 880, 881, 887, 888, 892, 893, 897, 898, 904, 905]
noncomputable def qV : Program := { pw with main := { pw.main with body := [st 75] } }
noncomputable def looseV : List Str := [Str.ofString "_wall", Str.ofString "SIMPLE_ESCAPES", Str.ofString "OPERATORS", Str.ofString "GLOBAL_SIGNS", Str.ofString "DEEPEST_KEY", Str.ofString "MOST_SEEN", Str.ofString "Thing", Str.ofString "Text", Str.ofString "ListThing", Str.ofString "TableThing", Str.ofString "RangeThing", Str.ofString "ProcThing", Str.ofString "ErrorThing", Str.ofString "FiberThing", Str.ofString "ModuleThing", Str.ofString "Entry", Str.ofString "sort_of", Str.ofString "same", Str.ofString "takes_in", Str.ofString "code_of", Str.ofString "is_word", Str.ofString "is_figures", Str.ofString "is_label", Str.ofString "is_plain_symbol", Str.ofString "full_name", Str.ofString "show_letter", Str.ofString "show_text", Str.ofString "show_symbol", Str.ofString "show_pair", Str.ofString "show_range", Str.ofString "show_held", Str.ofString "show_thing", Str.ofString "message_text", Str.ofString "show", Str.ofString "has_thing", Str.ofString "own_line", Str.ofString "numbered", Str.ofString "made_line", Str.ofString "line_of", Str.ofString "PRIVATE_NAMES", Str.ofString "PRIVATE_KERNEL", Str.ofString "GivenEntry", Str.ofString "sight_of", Str.ofString "given_entry", Str.ofString "entry_at", Str.ofString "first_entry", Str.ofString "find", Str.ofString "find_behind", Str.ofString "raise_version", Str.ofString "need_unfrozen", Str.ofString "own_module", Str.ofString "class_above", Str.ofString "make_own", Str.ofString "define", Str.ofString "kind_word", Str.ofString "copied", Str.ofString "need_mixin", Str.ofString "include", Str.ofString "prepend", Str.ofString "GemError", Str.ofString "Raised", Str.ofString "MODULES", Str.ofString "BUILTINS", Str.ofString "MIXED", Str.ofString "UNMADE", Str.ofString "World", Str.ofString "_law_put", Str.ofString "_law_plain", Str.ofString "_law_levels_right", Str.ofString "_law_classes_right"]
-- head 2
theorem tw_go : @segRunT = @PySem.W.Fast.tw10110043849684766642 := PySem.W.Fast.te10110043849684766642
theorem tw_tab : @treeTable = @PySem.W.Fast.tw14364793385576792824 := PySem.W.Fast.te14364793385576792824
theorem tw_den : @denote = @PySem.W.Fast.tw11892475500146522536 := PySem.W.Fast.te11892475500146522536
theorem tw_pre : @topGo = @PySem.W.Fast.tw15667345088766844465 := PySem.W.Fast.te15667345088766844465
theorem tw_seg : @segRun = @PySem.W.Fast.tw14374325043358763698 := PySem.W.Fast.te14374325043358763698
theorem tw_top : @topRun = @PySem.W.Fast.tw14082659384304107361 := PySem.W.Fast.te14082659384304107361
noncomputable def heapB (P : Params) : Heap := ⟨⟨objsB P⟩, {}⟩
noncomputable def heapG (P : Params) : Heap := ⟨⟨objsG P⟩, {}⟩
noncomputable abbrev fGs : Array GenState := Array.mk []
theorem hp_pre : ∀ w : World, (fun os => topGo treeTable pw w 11 an6 12 ⟨boot_heap w.params, fGs, boot_drawn, boot_toks, os⟩ (topStub pw)) =
    fun os => some (⟨heapB w.params, fGs, {}, 187, os⟩, ⟨denote treeTable cE, cE, p0, fB⟩) := fun w => by
  rw [tw_pre, tw_tab, tw_den]; kernel_rfl
theorem hp_block : ∀ w : World, (fun os => segRun treeTable pw w 11 an6 1 1 ⟨heapB w.params, fGs, {}, 187, os⟩ (blockOf bE envE cE p0 fB)) =
    fun os => some (.next, (sT (objsB w.params) 15 187 os).abs, cE, p0) := fun w => by
  rw [tw_seg, tw_tab]; kernel_rfl
theorem hp_a0 (b : Bool) : ∀ w : World, (fun os => goT (w.withFollow "special-get-raises" b) 278 (sT (objsB (w.withFollow "special-get-raises" b).params) 15 187 os) (sts 0 7) p0) =
    fun os => toT (sT (objsA (w.withFollow "special-get-raises" b).params) 24 264 os) ⟨9, 0, 9, 9⟩ := fun w => by
  unfold goT; rw [tw_go, tw_tab]; cases b <;> kernel_rfl
theorem hp_a : ∀ w : World, (fun os => goT w 278 (sT (objsB w.params) 15 187 os) (sts 0 7) p0) = fun os => toT (sT (objsA w.params) 24 264 os) ⟨9, 0, 9, 9⟩ :=
  byRow2 "special-get-raises" (hp_a0 false) (hp_a0 true)
theorem hp_c : ∀ w : World, (fun os => goT w 2651 (sT (objsA w.params) 24 264 os) (sts 7 10) ⟨9, 0, 9, 9⟩) = fun os => toT (sT (objsC w.params) 261 639 os) ⟨101, 0, 119, 20⟩ := fun w => by
  unfold goT; rw [tw_go, tw_tab]; kernel_rfl
theorem hp_d : ∀ w : World, (fun os => goT w 1978 (sT (objsC w.params) 261 639 os) (sts 17 49) ⟨101, 0, 119, 20⟩) = fun os => toT (sT (objsD w.params) 583 1090 os) ⟨414, 0, 414, 7⟩ := fun w => by
  unfold goT; rw [tw_go, tw_tab]; kernel_rfl
theorem hp_f0 (b : Bool) : ∀ w : World, (fun os => goT (w.withFollow "special-get-raises" b) 888 (sT (objsD (w.withFollow "special-get-raises" b).params) 583 1090 os) (sts 66 2) ⟨414, 0, 414, 7⟩) =
    fun os => toT (sT (objsF (w.withFollow "special-get-raises" b).params) 594 1229 os) ⟨416, 0, 416, 5⟩ := fun w => by
  unfold goT; rw [tw_go, tw_tab]; cases b <;> kernel_rfl
theorem hp_f : ∀ w : World, (fun os => goT w 888 (sT (objsD w.params) 583 1090 os) (sts 66 2) ⟨414, 0, 414, 7⟩) = fun os => toT (sT (objsF w.params) 594 1229 os) ⟨416, 0, 416, 5⟩ :=
  byRow2 "special-get-raises" (hp_f0 false) (hp_f0 true)
theorem hp_g : ∀ w : World, (fun os => goT w 1622 (sT (objsF w.params) 594 1229 os) (sts 68 8) ⟨416, 0, 416, 5⟩) = fun os => toT (sT (objsG w.params) 906 1647 os) ⟨659, 0, 665, 64⟩ := fun w => by
  unfold goT; rw [tw_go, tw_tab]; kernel_rfl
theorem hp_fin : ∀ w : World, (fun os => topRun treeTable pw w 11 an6 2 (sT (objsG w.params) 906 1647 os).abs ⟨doneF .next, cE, ⟨659, 0, 665, 64⟩, fB⟩) = fun os => some ⟨heapG w.params, fGs, {}, 1647, os⟩ := fun w => by
  rw [tw_top, tw_tab]; kernel_rfl
-- head 3
theorem hp_body : bE = sts 0 7 ++ (sts 7 10 ++ (sts 17 49 ++ (sts 66 2 ++ (sts 68 8 ++ [])))) := by kernel_rfl
theorem goT_of {w : World} {n : Nat} {s : OsState → SharedT} {s' : OsState → SharedT} {l : List Stmt} {p p' : Pos} (h : (fun os => goT w n (s os) l p) = fun os => toT (s' os) p') (os : OsState) :
    segRun treeTable pw w 11 an6 1 n (s os).abs (piecesOf l envE cE p fB) = some (.next, (s' os).abs, cE, p') := segRun_of (congrFun h os)
theorem hp_run (w : World) (os : OsState) : topRun treeTable pw w 11 an6 (12 + (1 + (278 + (2651 + (1978 + (888 + (1622 + 2))))))) ⟨boot_heap w.params, fGs, boot_drawn, boot_toks, os⟩ (topStub pw) = some ⟨heapG w.params, fGs, {}, 1647, os⟩ := by
  refine go_top (congrFun (hp_pre w) os) ?_
  refine piece_block (congrFun (hp_block w) os) ?_
  rw [hp_body]
  refine piece_app (goT_of (hp_a w) os) ?_
  refine piece_app (goT_of (hp_c w) os) ?_
  refine piece_app (goT_of (hp_d w) os) ?_
  refine piece_app (goT_of (hp_f w) os) ?_
  refine piece_app (goT_of (hp_g w) os) ?_
  exact congrFun (hp_fin w) os
-- head 4
noncomputable abbrev rowR : OpenRow := PySem.Challenge.rw_pq0492_01.row
noncomputable abbrev shG (w : World) (os : OsState) : Shared := ⟨heapG w.params, fGs, {}, 1647, os⟩
noncomputable def hkK : Hook := kHook KF KA (fun _ => by kernel_rfl)
theorem hl_size : ∀ w : World, ((boot_heap w.params).isNs mainGlobals && fGs.size == 0, (boot_heap w.params).objs.size, (boot_heap w.params).nsMap mainGlobals "__annotations__") = (true, 11, an6) := fun w => by
  kernel_rfl
theorem hl_top (w : World) (os : OsState) : (staticsOk (importedModules pw.main.body) (boot_heap w.params) (heapG w.params) && namesBound pw (heapG w.params) && gensDone (shG w os) && laidKept (boot_heap w.params) (heapG w.params)) = true := by
  kernel_rfl
theorem hl_seen (w : World) (os : OsState) : PyProof.Rows.seen ((recsOf qV).map (·.name)) (ownsOf qV) [] { shG w os with gens := #[] } = expectedOf qV := by kernel_rfl
theorem hl_blt (w : World) : (heapG w.params).bltView = bltViewBooted := by kernel_rfl
theorem hl_tabs (w : World) (os : OsState) : tabsOk qV (shG w os) = true := by kernel_rfl
theorem hl_pin (w : World) (os : OsState) : pinSeenD qV (drecsOf qV) (shG w os) = pinGoodD (drecsOf qV) := by kernel_rfl
theorem hl_pe (w : World) (os : OsState) : plainSeenE qV (looseW qV looseV) (shG w os) = plainGoodE qV (looseW qV looseV) := by kernel_rfl
theorem hl_pd (w : World) (os : OsState) : plainSeenD qV looseV (shG w os) = plainGoodD qV looseV := by kernel_rfl
theorem hl_wide (w : World) (os : OsState) : wideSeen qV (shG w os) = wideGood qV := by kernel_rfl
theorem hl_cls (w : World) (os : OsState) : clsSeenW qV looseV (shG w os) = clsGoodW qV looseV := by kernel_rfl
noncomputable abbrev xtF : Shared → Bool := fun s => xlAt qV [] s && recOk (RowW.records rowR.toRowW) s
theorem hl_keys (w : World) (os : OsState) : ((heapG w.params).keysOk (looseW qV looseV) ((recsOf qV).map (·.name)) ((litsOf qV).map (·.1)) ((clssOf qV (looseW qV looseV)).map (·.name)) && (heapG w.params).accountedOkI (importedModules pw.main.body) && (heapG w.params).isNs mainGlobals && (heapG w.params).isNs builtinsNs && tablesOk qV (heapG w.params) && xtF (shG w os) && (if true = true then (shG w os).gens.size == 0 else !leftWithCleanup (shG w os).gens)) = true := by kernel_rfl
theorem hl_K (w : World) (os : OsState) : hkK.obs (shG w os) = hkK.val w := by kernel_rfl
-- head 5
theorem hl_open : ∀ w : World, (fencedOpening treeTable pw w 14950).map (fun s => (s.heap, s.gens, s.drawn, s.toks)) = some (boot_heap w.params, fGs, boot_drawn, boot_toks) :=
  boot_open (by kernel_rfl) (by decide) (fun s => by kernel_rfl)
theorem hl_left : LeftO pw qV looseV xtF hkK.obs hkK.val 14950 true :=
  LeftO.of_pieces hl_open hl_size hp_run (by decide) fun w => funext fun os =>
    looks_pair (hl_top w os) (looks_pair (looks_pair (hl_seen w os) (looks_pair (hl_blt w) (looks_pair (hl_keys w os) (looks_pair (hl_tabs w os) (looks_pair (hl_pin w os) (looks_pair (hl_pe w os) (looks_pair (hl_pd w os) (looks_pair (hl_wide w os) (hl_cls w os))))))))) (hl_K w os))
-- head 6
theorem tw_road : @noRoadLSs = @PySem.W.Fast.tw8326940854005059898 := PySem.W.Fast.te8326940854005059898
theorem tw_meet : @namesMeet = @PySem.W.Fast.tw17119622794617984870 := PySem.W.Fast.te17119622794617984870
theorem tw_res : @namesResolve = @PySem.W.Fast.tw8377067652309620493 := PySem.W.Fast.te8377067652309620493
theorem tw_attrL : @attrL = @PySem.W.Fast.tw17868728402115742887 := PySem.W.Fast.te17868728402115742887
theorem tw_bound : @Program.boundNames = @PySem.W.Fast.tw18344453789297297638 := PySem.W.Fast.te18344453789297297638
noncomputable abbrev lw : OpenLaw := PySem.Challenge.rw_pq0492_01
theorem hl_l1 : sreFenced lw.row.prog.main = true := by kernel_rfl
theorem hl_l2 : ((moduleNames lw.row.prog.main.body).isEmpty || lookedIntoSs (moduleNames lw.row.prog.main.body) lw.row.prog.main.body) = true := by kernel_rfl
theorem hl_l3 : namesResolve lw.row.prog = true := by rw [tw_res]; kernel_rfl
theorem hl_l4 : lw.row.prog.boundNames.all (fun n => !worldNames.contains n) = true := by rw [tw_bound]; kernel_rfl
theorem hl_l5 : noRoadLSs { strict := !(importedModules lw.row.prog.main.body).all cThrough.contains, foot := none, bare := (["vars", "dir", "locals"] : List Str).filter (readsOut lw.row.prog lw.row.prog.main.body) } lw.row.prog.main.body = true := by rw [tw_road]; kernel_rfl
theorem hl_l6 : (namesMeet lw.row.prog lw.row.prog.main.body fun _ n => attrL n) = true := by rw [tw_meet, tw_attrL]; kernel_rfl
theorem hl_looks : looksOpen lw.row.prog = true := by
  unfold looksOpen
  with_reducible exact look_both (look_both (look_both (look_both (look_both hl_l1 hl_l2) hl_l3) hl_l4) hl_l5) hl_l6
theorem hl_part : lw.row.wellSaid = true := by
  unfold OpenRow.wellSaid OpenRow.partSaid
  rw [hl_looks, tw_bound]
  kernel_rfl
theorem hl_well : lw.wellSaid = true := by
  unfold OpenLaw.wellSaid
  rw [hl_part, tw_road, tw_meet]
  kernel_rfl
-- MCore
/-- a value without its token -/
def er : Value → Value
  | .int i _ => .int i 0
  | .str s _ => .str s 0
  | v => v
@[simp] theorem er_int (i t) : er (.int i t) = .int i 0 := rfl
@[simp] theorem er_str (i t) : er (.str i t) = .str i 0 := rfl
@[simp] theorem er_none : er .none = .none := rfl
@[simp] theorem er_bool (b) : er (.bool b) = .bool b := rfl
@[simp] theorem er_ref (a) : er (.ref a) = .ref a := rfl
theorem er_is_int {v : Value} {i : Int} {t} (h : er v = .int i t) : ∃ t, v = .int i t := by cases v <;> simp_all [er]
theorem er_is_str {v : Value} {i : Str} {t} (h : er v = .str i t) : ∃ t, v = .str i t := by cases v <;> simp_all [er]
theorem er_is_ref {v : Value} {a : Addr} (h : er v = .ref a) : v = .ref a := by cases v <;> simp_all [er]
theorem er_is_none {v : Value} (h : er v = .none) : v = .none := by cases v <;> simp_all [er]
theorem er_is_bool {v : Value} {b} (h : er v = .bool b) : v = .bool b := by cases v <;> simp_all [er]
theorem er_is_type {v : Value} {b} (h : er v = .type b) : v = .type b := by cases v <;> simp_all [er]
/-- an abstract object -/
inductive AO where
  | inst (C : Addr) (fs : List (Str × Value))
  | list (xs : List Value)
  | tup (xs : List Value)
  | idict (kvs : List (Int × Value))
  | sdict (kvs : List (Str × Value))

abbrev AH := Addr → Option AO
def upd (σ : AH) (a : Addr) (o : AO) : AH := fun b => if b = a then some o else σ b
theorem upd_same (σ : AH) (a o) : upd σ a o a = some o := by simp [upd]
theorem upd_ne (σ : AH) {a b : Addr} (o) (h : b ≠ a) : upd σ a o b = σ b := by simp [upd, h]

structure GX where
  prog : Program
  w : World
  K : Frag
  p : Program
  loose : List Str
  mean : ExcName → Option Value
  mg : Str → Option Value
  mb : Str → Option Value

def Fs : List (Str × Value) → List DictEntry → Prop
  | [], [] => True
  | (n, v) :: r, e :: es => (∃ t, e.key = .str n t) ∧ er e.val = v ∧ Fs r es
  | _, _ => False

abbrev tupOf (its : Array Value) (n : Nat) : Obj := { cls := .type "tuple", data := .seq its n }

def Ent (G : GX) (a : Addr) : AO → List (Addr × Obj) → Prop
  | .inst C fs, l => ∃ d es n, l = [(a, instObj C d), (d, dictOf es n)] ∧ Fs fs es
  | .list xs, l => ∃ vs n, l = [(a, listOf vs n)] ∧ vs.toList.map er = xs
  | .tup xs, l => ∃ vs n, l = [(a, tupOf vs n)] ∧ vs.toList.map er = xs
  | .idict kvs, l => ∃ o kv, l = [(a, o)] ∧ o.IsDictOf (intKind G.prog G.w) kv ∧ kv.map (fun p => (p.1, er p.2)) = kvs ∧ (a == sysModules) = false
  | .sdict kvs, l => ∃ o kv, l = [(a, o)] ∧ o.IsDictOf (strKind G.prog G.w) kv ∧ kv.map (fun p => (p.1, er p.2)) = kvs ∧ (a == sysModules) = false

theorem Ent.key {G : GX} {a : Addr} {ao : AO} {l : List (Addr × Obj)} (h : Ent G a ao l) : ∃ o r, l = (a, o) :: r := by
  cases ao with
  | inst C fs => obtain ⟨d, es, n, rfl, _⟩ := h; exact ⟨_, _, rfl⟩
  | list xs => obtain ⟨vs, n, rfl, _⟩ := h; exact ⟨_, _, rfl⟩
  | tup xs => obtain ⟨vs, n, rfl, _⟩ := h; exact ⟨_, _, rfl⟩
  | idict xs => obtain ⟨o, kv, rfl, _⟩ := h; exact ⟨_, _, rfl⟩
  | sdict xs => obtain ⟨o, kv, rfl, _⟩ := h; exact ⟨_, _, rfl⟩

abbrev Led := List (Addr × Obj)
abbrev keys (l : Led) : List Addr := l.map (·.1)

/-- the ledger news bears σ; ex stands beside -/
structure Bears (G : GX) (σ : AH) (ex : Led) (dom : List Addr) (en : Addr → Led) : Prop where
  nd : (keys (dom.flatMap en ++ ex)).Nodup
  dnd : dom.Nodup
  ent : ∀ a ao, σ a = some ao → a ∈ dom ∧ Ent G a ao (en a)

structure Cx where
  A : Around
  A₀ : Around
  base : Heap
  h₀ : Heap
  outer : List Env
  fenv : Env
abbrev Cx.L (c : Cx) : Addr := c.fenv.locals

structure Cx.Ok (G : GX) (c : Cx) (n : Nat) : Prop where
  below : Below c.A₀ c.base c.outer c.h₀
  K : G.K.In c.h₀
  T : Top G.p G.loose G.mean G.mg G.mb c.h₀
  frames : c.A.frames = some (c.fenv :: c.outer)
  frame : c.fenv.frame = some c.fenv.locals
  kind : c.fenv.scope.kind = .function
  glob : c.fenv.globals = mainGlobals
  bi : c.fenv.builtins = builtinsNs
  hh : c.A.handled = none
  depth : c.A.depth + 3 * n < recursionLimit
  units : c.A.units + 16 * n + 200 < cLine

def Inv (G : GX) (c : Cx) (m : Str → Option Value) (ex : Led) (σ : AH) (h : Heap) : Prop :=
  ∃ dom en, Fr c.h₀ c.L h m ∧ News c.h₀ c.L h (dom.flatMap en ++ ex) ∧ Bears G σ ex dom en

section
variable {G : GX} {c : Cx} {m : Str → Option Value} {ex : Led} {σ σ' : AH} {h h' : Heap} {a : Addr} {ao ao' : AO}

theorem newsSub {h₀ : Heap} {L : Addr} {l l' : Led} (N : News h₀ L h l) (hs : ∀ p ∈ l', p ∈ l) : News h₀ L h l' := fun p hp => N p (hs p hp)

theorem Inv.mono (I : Inv G c m ex σ h) (hs : ∀ a ao, σ' a = some ao → σ a = some ao) : Inv G c m ex σ' h :=
  let ⟨dom, en, F, N, B⟩ := I; ⟨dom, en, F, N, B.nd, B.dnd, fun a ao e => B.ent a ao (hs a ao e)⟩

theorem Inv.fr (I : Inv G c m ex σ h) : Fr c.h₀ c.L h m := let ⟨_, _, F, _⟩ := I; F
theorem Inv.exN (I : Inv G c m ex σ h) : News c.h₀ c.L h ex := let ⟨_, _, _, N, _⟩ := I; newsSub N fun p hp => List.mem_append_right _ hp

theorem flatMap_upd {dom : List Addr} {en : Addr → Led} {a : Addr} {l : Led} (hn : a ∉ dom) : dom.flatMap (fun b => if b = a then l else en b) = dom.flatMap en := by
  induction dom with
  | nil => rfl
  | cons b r ih =>
    simp only [List.mem_cons, not_or] at hn
    rw [List.flatMap_cons, List.flatMap_cons, ih hn.2, if_neg (Ne.symm hn.1)]

/-- an object of σ, cut out of the ledger; put back changed -/
theorem Bears.focus {dom : List Addr} {en : Addr → Led} (B : Bears G σ ex dom en) (ha : σ a = some ao) :
    ∃ pre ents post, dom.flatMap en ++ ex = pre ++ ents ++ post ∧ Ent G a ao ents ∧
      ∀ ao' ents', Ent G a ao' ents' → keys ents' = keys ents →
        ∃ en', dom.flatMap en' ++ ex = pre ++ ents' ++ post ∧ Bears G (upd σ a ao') ex dom en' := by
  obtain ⟨hd, he⟩ := B.ent a ao ha
  obtain ⟨d1, d2, rfl⟩ := List.append_of_mem hd
  have dn := B.dnd
  have h1 : a ∉ d1 := by
    intro hm
    have := List.nodup_append.mp dn
    exact this.2.2 a hm a (by simp) rfl
  have h2 : a ∉ d2 := by
    have := (List.nodup_append.mp dn).2.1
    exact (List.nodup_cons.mp this).1
  refine ⟨d1.flatMap en, en a, d2.flatMap en ++ ex, by simp [List.flatMap_append, List.flatMap_cons], he, fun ao' ents' he' hk => ?_⟩
  have hl : (d1 ++ a :: d2).flatMap (fun b => if b = a then ents' else en b) ++ ex = d1.flatMap en ++ ents' ++ (d2.flatMap en ++ ex) := by
    rw [List.flatMap_append, List.flatMap_cons, flatMap_upd h1, flatMap_upd h2, if_pos rfl]; simp
  refine ⟨fun b => if b = a then ents' else en b, hl, ?_, dn, fun b bo hb => ?_⟩
  · have hn := B.nd
    unfold keys at hn hk ⊢
    rw [hl]
    simp only [List.flatMap_append, List.flatMap_cons, List.map_append, List.append_assoc] at hn ⊢
    rw [hk]; exact hn
  · by_cases e : b = a
    · subst e
      rw [upd_same] at hb; cases hb
      exact ⟨hd, by rw [if_pos rfl]; exact he'⟩
    · rw [upd_ne _ _ e] at hb
      obtain ⟨q1, q2⟩ := B.ent b bo hb
      exact ⟨q1, by rw [if_neg e]; exact q2⟩

theorem nodup_pre {pre post : Led} {d : Addr} {o : Obj} (hn : (keys (pre ++ (d, o) :: post)).Nodup) : (∀ p ∈ pre, p.1 ≠ d) ∧ ∀ p ∈ post, p.1 ≠ d := by
  unfold keys at hn
  rw [List.map_append, List.map_cons] at hn
  obtain ⟨_, q2, q3⟩ := List.nodup_append.mp hn
  refine ⟨fun p hp => q3 p.1 (List.mem_map.mpr ⟨p, hp, rfl⟩) d (by simp), fun p hp e => ?_⟩
  have := (List.nodup_cons.mp q2).1
  exact this (List.mem_map.mpr ⟨p, hp, e⟩)

theorem upd_of {pre post : Led} {d : Addr} {o o' : Obj} (hn : (keys (pre ++ (d, o) :: post)).Nodup) : Upd d o o' (pre ++ (d, o) :: post) (pre ++ (d, o') :: post) := by
  obtain ⟨h1, h2⟩ := nodup_pre hn
  clear hn
  induction pre with
  | nil => exact .head h2
  | cons p r ih => exact .tail (h1 p (.head _)) (ih fun q hq => h1 q (.tail _ hq))
/-- the one-object form -/
theorem Inv.focus1 (I : Inv G c m ex σ h) (ha : σ a = some ao) (h1 : ∀ l, Ent G a ao l → ∃ o, l = [(a, o)]) :
    ∃ o pre post, Ent G a ao [(a, o)] ∧ Fr c.h₀ c.L h m ∧ News c.h₀ c.L h (pre ++ (a, o) :: post) ∧ (keys (pre ++ (a, o) :: post)).Nodup ∧
      ∀ ao' o' h', Ent G a ao' [(a, o')] → Fr c.h₀ c.L h' m → News c.h₀ c.L h' (pre ++ (a, o') :: post) → Inv G c m ex (upd σ a ao') h' := by
  obtain ⟨dom, en, F, N, B⟩ := I
  obtain ⟨pre, ents, post, e, he, k⟩ := B.focus ha
  obtain ⟨o, rfl⟩ := h1 _ he
  have nd := B.nd
  rw [e] at N nd
  refine ⟨o, pre, post, he, F, by simpa using N, by simpa using nd, fun ao' o' h' he' F' N' => ?_⟩
  obtain ⟨en', e', B'⟩ := k ao' _ he' rfl
  exact ⟨dom, en', F', by rw [e']; simpa using N', B'⟩

theorem upd_self (σ : AH) (ha : σ a = some ao) : upd σ a ao = σ := by
  funext b; unfold upd; split
  · rename_i e; rw [e, ha]
  · rfl

/-- a new object onto σ -/
theorem Inv.alloc (I : Inv G c m ex σ h) : ∃ news, Fr c.h₀ c.L h m ∧ News c.h₀ c.L h news ∧
    ∀ x ents ao h', Ent G x ao ents → (keys ents).Nodup → (∀ q ∈ keys ents, ∀ p ∈ news, q ≠ p.1) → Fr c.h₀ c.L h' m → News c.h₀ c.L h' (ents ++ news) → σ x = none ∧ Inv G c m ex (upd σ x ao) h' := by
  obtain ⟨dom, en, F, N, B⟩ := I
  refine ⟨_, F, N, fun x ents ao h' he hn hd F' N' => ?_⟩
  obtain ⟨o, r, hr⟩ := he.key
  have hx : ∀ p ∈ dom.flatMap en ++ ex, x ≠ p.1 := hd x (by rw [hr]; simp)
  have hxd : ∀ b ∈ dom, ∀ bo, σ b = some bo → b ≠ x := fun b hb bo hs e => by
    obtain ⟨_, q⟩ := B.ent b bo hs
    obtain ⟨o', r', hr'⟩ := q.key
    refine hx (b, o') (List.mem_append_left _ (List.mem_flatMap.mpr ⟨b, hb, by rw [hr']; simp⟩)) e.symm
  have hxn : σ x = none := by
    cases q : σ x with
    | none => rfl
    | some bo => exact absurd rfl (hxd x (B.ent x bo q).1 bo q)
  refine ⟨hxn, x :: dom.filter (fun b => b ≠ x), fun b => if b = x then ents else en b, F', ?_, ?_, ?_, ?_⟩
  · intro p hp
    simp only [List.flatMap_cons, if_true, List.append_assoc, List.mem_append] at hp
    rcases hp with hp | hp | hp
    · exact N' p (List.mem_append_left _ hp)
    · obtain ⟨b, hb, hb'⟩ := List.mem_flatMap.mp hp
      simp only [List.mem_filter, ne_eq, decide_eq_true_eq] at hb
      rw [if_neg hb.2] at hb'
      exact N' p (List.mem_append_right _ (List.mem_append_left _ (List.mem_flatMap.mpr ⟨b, hb.1, hb'⟩)))
    · exact N' p (List.mem_append_right _ (List.mem_append_right _ hp))
  · have sub : (((dom.filter (fun b => b ≠ x)).flatMap (fun b => if b = x then ents else en b)) ++ ex).Sublist (dom.flatMap en ++ ex) := by
      refine List.Sublist.append ?_ (List.Sublist.refl _)
      clear hd N N' B hxd hx
      induction dom with
      | nil => simp
      | cons b r ih =>
        by_cases e : b = x
        · subst e
          rw [List.filter_cons_of_neg (by simp), List.flatMap_cons]
          exact ih.trans (List.sublist_append_right _ _)
        · rw [List.filter_cons_of_pos (by simpa using e), List.flatMap_cons, List.flatMap_cons, if_neg e]
          exact List.Sublist.append (List.Sublist.refl _) ih
    show (keys ((x :: dom.filter _).flatMap _ ++ ex)).Nodup
    rw [List.flatMap_cons, if_pos rfl, List.append_assoc]
    unfold keys
    rw [List.map_append]
    refine List.nodup_append.mpr ⟨hn, (B.nd.sublist (sub.map _)), fun q hq k hk e => ?_⟩
    subst e
    have := (sub.map (·.1)).subset hk
    obtain ⟨p, hp, e'⟩ := List.mem_map.mp this
    exact hd q hq p hp e'.symm
  · exact List.nodup_cons.mpr ⟨by simp, B.dnd.sublist List.filter_sublist⟩
  · intro b bo hb
    by_cases e : b = x
    · subst e
      rw [upd_same] at hb; cases hb
      exact ⟨by simp, by rw [if_pos rfl]; exact he⟩
    · rw [upd_ne _ _ e] at hb
      obtain ⟨q1, q2⟩ := B.ent b bo hb
      exact ⟨by simp [e, q1], by rw [if_neg e]; exact q2⟩

/-- a heap that keeps all: the invariant goes on -/
theorem Inv.keeps (I : Inv G c m ex σ h) (k : ∀ b o, h.get? b = some o → h'.get? b = some o) : Inv G c m ex σ h' := by
  obtain ⟨dom, en, F, N, B⟩ := I
  obtain ⟨oL, a1, a2, hL, a3⟩ := F.ns
  exact ⟨dom, en, ⟨⟨oL, a1, a2, k _ _ hL, a3⟩, fun b o e => k _ _ (F.keep b o e), F.above⟩, fun p hp => ⟨k _ _ (N p hp).1, (N p hp).2⟩, B⟩
end
-- MLog
abbrev VM := Str → Option Value
def VM.set (vm : VM) (x : Str) (v : Value) : VM := fun y => if y = x then some v else vm y

/-- a name that can be read: what it gives -/
inductive Rd (G : GX) (env : Env) (L : Addr) (m : Str → Option Value) (ex : Led) (x : Str) (v : Value) : Prop
  | loc : env.kindOf x = some .local → env.locals = L → m x = some v → Rd G env L m ex x v
  | cell {a o} : env.kindOf x = some .cell → env.cells.lookup x = some a → (a, o) ∈ ex → o.data = .cell (some v) → Rd G env L m ex x v
  | free {a o} : env.kindOf x = some .free → (x == ("__classdict__" : Str)) = false → env.cells.lookup x = some a → (a, o) ∈ ex → o.data = .cell (some v) → Rd G env L m ex x v
  | comp {o mC} : env.kindOf x = some .local → (env.locals, o) ∈ ex → LCg.NsObj o mC → mC x = some v → Rd G env L m ex x v
  | glob : env.kindOf x = some .globalImplicit → nsIn G.K mainGlobals x = some (some v) → Rd G env L m ex x v
  | bi : env.kindOf x = some .globalImplicit → nsIn G.K mainGlobals x = some none → bootBuiltins x = some v → x ≠ "__name__" → Rd G env L m ex x v

def VmOk (G : GX) (env : Env) (L : Addr) (m : Str → Option Value) (ex : Led) (vm : VM) : Prop :=
  ∀ x v, vm x = some v → (x == ("__debug__" : Str)) = false ∧ ∃ v', er v' = v ∧ Rd G env L m ex x v'

structure EnvOk (sc : Scope) (env : Env) : Prop where
  scope : env.scope = sc
  glob : env.globals = mainGlobals
  bi : env.builtins = builtinsNs
  kind : env.scope.kind = .function

def WOp (G : GX) (n : Nat) (t : Sem Value) (σ : AH) (P : Value → AH → Prop) : Prop :=
  ∀ (c : Cx) (m : Str → Option Value) (ex : Led) (s : Shared) (Q E : Value → Shared → Prop), c.Ok G n → Inv G c m ex σ s.heap →
    (∀ v σ' h' tk, P (er v) σ' → Inv G c m ex σ' h' → Q v { s with heap := h', toks := tk }) → wpAny (model G.prog G.w) c.A t Q E s
def WUn (G : GX) (n : Nat) (t : Sem Unit) (σ : AH) (P : AH → Prop) : Prop :=
  ∀ (c : Cx) (m : Str → Option Value) (ex : Led) (s : Shared) (Q : Unit → Shared → Prop) (E : Value → Shared → Prop), c.Ok G n → Inv G c m ex σ s.heap →
    (∀ σ' h' tk, P σ' → Inv G c m ex σ' h' → Q () { s with heap := h', toks := tk }) → wpAny (model G.prog G.w) c.A t Q E s
def WBo (G : GX) (n : Nat) (t : Sem Bool) (σ : AH) (P : Bool → AH → Prop) : Prop :=
  ∀ (c : Cx) (m : Str → Option Value) (ex : Led) (s : Shared) (Q : Bool → Shared → Prop) (E : Value → Shared → Prop), c.Ok G n → Inv G c m ex σ s.heap →
    (∀ b σ' h' tk, P b σ' → Inv G c m ex σ' h' → Q b { s with heap := h', toks := tk }) → wpAny (model G.prog G.w) c.A t Q E s
def WE (G : GX) (n : Nat) (sc : Scope) (e : Expr) (vm : VM) (σ : AH) (P : Value → AH → Prop) : Prop :=
  ∀ (c : Cx) (env : Env) (m : Str → Option Value) (ex : Led) (s : Shared) (Q E : Value → Shared → Prop), c.Ok G n → EnvOk sc env → VmOk G env c.L m ex vm → Inv G c m ex σ s.heap →
    (∀ v σ' h' tk, P (er v) σ' → Inv G c m ex σ' h' → Q v { s with heap := h', toks := tk }) → wpAny (model G.prog G.w) c.A (eval e env) Q E s
def WT (G : GX) (n : Nat) (sc : Scope) (e : Expr) (vm : VM) (σ : AH) (P : Bool → AH → Prop) : Prop :=
  ∀ (c : Cx) (env : Env) (m : Str → Option Value) (ex : Led) (s : Shared) (Q : Bool → Shared → Prop) (E : Value → Shared → Prop), c.Ok G n → EnvOk sc env → VmOk G env c.L m ex vm → Inv G c m ex σ s.heap →
    (∀ b σ' h' tk, P b σ' → Inv G c m ex σ' h' → Q b { s with heap := h', toks := tk }) → wpAny (model G.prog G.w) c.A (isTrue e env (eval e env)) Q E s
def WArgs (G : GX) (n : Nat) (sc : Scope) (vm : VM) : List Expr → AH → (List Value → AH → Prop) → Prop
  | [], σ, P => P [] σ
  | e :: r, σ, P => WE G n sc e vm σ fun v σ' => WArgs G n sc vm r σ' fun vs σ'' => P (v :: vs) σ''
def WCall (G : GX) (n : Nat) (f : Value) (args : List Value) (σ : AH) (P : Value → AH → Prop) : Prop :=
  ∀ args' : List Value, args'.map er = args → WOp G n (call f args') σ P

section
variable {G : GX} {n : Nat} {sc : Scope} {σ : AH} {vm : VM} {P P' : Value → AH → Prop}

theorem WOp.mono {t} (h : WOp G n t σ P) (hP : ∀ v σ', P v σ' → P' v σ') : WOp G n t σ P' := fun c m ex s Q E ok I k => h c m ex s Q E ok I fun v σ' h' tk p => k v σ' h' tk (hP _ _ p)
theorem WUn.mono {t} {P P' : AH → Prop} (h : WUn G n t σ P) (hP : ∀ σ', P σ' → P' σ') : WUn G n t σ P' := fun c m ex s Q E ok I k => h c m ex s Q E ok I fun σ' h' tk p => k σ' h' tk (hP _ p)
theorem WBo.mono {t} {P P' : Bool → AH → Prop} (h : WBo G n t σ P) (hP : ∀ v σ', P v σ' → P' v σ') : WBo G n t σ P' := fun c m ex s Q E ok I k => h c m ex s Q E ok I fun v σ' h' tk p => k v σ' h' tk (hP _ _ p)
theorem WE.mono {e} (h : WE G n sc e vm σ P) (hP : ∀ v σ', P v σ' → P' v σ') : WE G n sc e vm σ P' := fun c env m ex s Q E ok eo vo I k => h c env m ex s Q E ok eo vo I fun v σ' h' tk p => k v σ' h' tk (hP _ _ p)
theorem WT.mono {e} {P P' : Bool → AH → Prop} (h : WT G n sc e vm σ P) (hP : ∀ v σ', P v σ' → P' v σ') : WT G n sc e vm σ P' := fun c env m ex s Q E ok eo vo I k => h c env m ex s Q E ok eo vo I fun v σ' h' tk p => k v σ' h' tk (hP _ _ p)
theorem WArgs.mono : ∀ {es : List Expr} {σ} {P P' : List Value → AH → Prop}, WArgs G n sc vm es σ P → (∀ v σ', P v σ' → P' v σ') → WArgs G n sc vm es σ P'
  | [], _, _, _, h, hP => hP _ _ h
  | _ :: _, _, _, _, h, hP => WE.mono h fun _ _ h' => WArgs.mono h' fun _ _ h'' => hP _ _ h''
theorem WCall.mono {f args} (h : WCall G n f args σ P) (hP : ∀ v σ', P v σ' → P' v σ') : WCall G n f args σ P' := fun a e => (h a e).mono hP
theorem Cx.Ok.le {c : Cx} {k : Nat} (h : c.Ok G n) (hk : k ≤ n) : c.Ok G k := { h with depth := by have := h.depth; omega, units := by have := h.units; omega }
theorem WCall.le {f args} {k : Nat} (h : WCall G k f args σ P) (hk : k ≤ n) : WCall G n f args σ P := fun a e c m ex s Q E ok => h a e c m ex s Q E (ok.le hk)

/- constants, names -/
theorem WE.cNone {k pos} (h : P .none σ) : WE G n sc (.Constant .none k pos) vm σ P := fun c env m ex s Q E ok eo vo I kk => Constant_none (kk .none σ s.heap s.toks h I)
theorem WE.cBool {b k pos} (h : P (.bool b) σ) : WE G n sc (.Constant (.bool b) k pos) vm σ P := fun c env m ex s Q E ok eo vo I kk => Constant_bool (kk (.bool b) σ s.heap s.toks h I)
theorem WE.cInt {i k pos} (h : P (.int i 0) σ) : WE G n sc (.Constant (.int i) k pos) vm σ P := fun c env m ex s Q E ok eo vo I kk => wpAny_Constant_int (kk (.int i _) σ s.heap _ h I)
theorem WE.cStr {i k pos} (h : P (.str i 0) σ) : WE G n sc (.Constant (.str i) k pos) vm σ P := fun c env m ex s Q E ok eo vo I kk => Constant_str (kk (.str i _) σ s.heap _ h I)

theorem WE.name {x pos v} (hv : vm x = some v) (h : P v σ) : WE G n sc (.Name x pos) vm σ P := by
  intro c env m ex s Q E ok eo vo I kk
  obtain ⟨hd, v', rfl, r⟩ := vo x v hv
  have z := kk v' σ s.heap s.toks h I
  have F := I.fr
  have hT := ok.T
  cases r with
  | loc h1 h2 h3 => exact wpAny_Name (wpAny_loadName_local eo.kind h1 (h2 ▸ F.ns) h3 z) hd
  | cell h1 h2 h3 h4 => exact wpAny_Name (wpAny_loadName_cell eo.kind h1 h2 ⟨_, (I.exN _ h3).1, h4⟩ z) hd
  | free h1 h0 h2 h3 h4 => exact wpAny_Name (wpAny_loadName_free eo.kind h1 h2 ⟨_, (I.exN _ h3).1, h4⟩ z h0) hd
  | comp h1 h2 h3 h4 => exact wpAny_Name (wpAny_loadName_local eo.kind h1 (h3.ns (I.exN _ h2).1) h4 z) hd
  | glob h1 h2 => exact Name_function_global eo.kind h1 (loadGlobal_global (env := env) (by rw [eo.glob]; exact hT.g.keeps F.keep) (mg_of ok.K hT.g h2) z) hd
  | bi h1 h2 h3 h4 => exact Name_function_global eo.kind h1 (loadGlobal_builtin (env := env) (by rw [eo.glob]; exact hT.g.keeps F.keep) (mg_none_of ok.K hT.g h2) (by rw [eo.bi]; exact hT.b.keeps F.keep) ((hT.builtins x h4).trans h3) z) hd

/- tests -/
theorem WT.not {x pos} {P : Bool → AH → Prop} (h : WT G n sc x vm σ fun b σ' => P (!b) σ') : WT G n sc (.UnaryOp .Not x pos) vm σ P :=
  fun c env m ex s Q E ok eo vo I kk => isTrue_not (h c env m ex s _ E ok eo vo I fun b σ' h' tk p I' => kk (!b) σ' h' tk p I')
theorem WT.andNil {pos} {P : Bool → AH → Prop} (h : P true σ) : WT G n sc (.BoolOp .And [] pos) vm σ P :=
  fun c env m ex s Q E ok eo vo I kk => isTrue_and_nil (kk true σ s.heap s.toks h I)
theorem WT.orNil {pos} {P : Bool → AH → Prop} (h : P false σ) : WT G n sc (.BoolOp .Or [] pos) vm σ P :=
  fun c env m ex s Q E ok eo vo I kk => isTrue_or_nil (kk false σ s.heap s.toks h I)
theorem isTrue_and' {M : Model} {A : Around} {E : Value → Shared → Prop} {s : Shared} {env : Env} {x rest pos} {whole whole' : Sem Value} {Q : Bool → Shared → Prop}
    (h : wpAny M A (isTrue x env (eval x env)) (fun c s' => if c then wpAny M A (isTrue (.BoolOp .And rest pos) env whole') Q E s' else Q false s') E s) :
    wpAny M A (isTrue (.BoolOp .And (x :: rest) pos) env whole) Q E s := isTrue_and h
theorem isTrue_or' {M : Model} {A : Around} {E : Value → Shared → Prop} {s : Shared} {env : Env} {x rest pos} {whole whole' : Sem Value} {Q : Bool → Shared → Prop}
    (h : wpAny M A (isTrue x env (eval x env)) (fun c s' => if c then Q true s' else wpAny M A (isTrue (.BoolOp .Or rest pos) env whole') Q E s') E s) :
    wpAny M A (isTrue (.BoolOp .Or (x :: rest) pos) env whole) Q E s := isTrue_or h
theorem WT.and {x rest pos} {P : Bool → AH → Prop} (h : WT G n sc x vm σ fun b σ' => if b then WT G n sc (.BoolOp .And rest pos) vm σ' P else P false σ') : WT G n sc (.BoolOp .And (x :: rest) pos) vm σ P :=
  fun c env m ex s Q E ok eo vo I kk => isTrue_and' (h c env m ex s _ E ok eo vo I fun b σ' h' tk p I' => by
    cases b with
    | true => exact p c env m ex _ Q E ok eo vo I' fun b σ' h'' tk' p' I'' => kk b σ' h'' tk' p' I''
    | false => exact kk false σ' h' tk p I')
theorem WT.or {x rest pos} {P : Bool → AH → Prop} (h : WT G n sc x vm σ fun b σ' => if b then P true σ' else WT G n sc (.BoolOp .Or rest pos) vm σ' P) : WT G n sc (.BoolOp .Or (x :: rest) pos) vm σ P :=
  fun c env m ex s Q E ok eo vo I kk => isTrue_or' (h c env m ex s _ E ok eo vo I fun b σ' h' tk p I' => by
    cases b with
    | false => exact p c env m ex _ Q E ok eo vo I' fun b σ' h'' tk' p' I'' => kk b σ' h'' tk' p' I''
    | true => exact kk true σ' h' tk p I')
theorem WT.ifExp {t b o pos} {P : Bool → AH → Prop} (h : WT G n sc t vm σ fun c σ' => if c then WT G n sc b vm σ' P else WT G n sc o vm σ' P) : WT G n sc (.IfExp t b o pos) vm σ P :=
  fun c env m ex s Q E ok eo vo I kk => isTrue_IfExp (h c env m ex s _ E ok eo vo I fun b σ' h' tk p I' => by
    cases b with
    | false => exact p c env m ex _ Q E ok eo vo I' fun b σ' h'' tk' p' I'' => kk b σ' h'' tk' p' I''
    | true => exact p c env m ex _ Q E ok eo vo I' fun b σ' h'' tk' p' I'' => kk b σ' h'' tk' p' I'')

/-- the truth of a value -/
def Tr (G : GX) (n : Nat) (v : Value) (σ : AH) (P : Bool → AH → Prop) : Prop := ∀ v', er v' = v → WBo G n (truthy v') σ P
def plainTest : Expr → Bool
  | .UnaryOp .Not _ _ | .BoolOp .. | .IfExp .. | .Compare .. => false
  | _ => true
theorem plain_eq {e : Expr} {env : Env} {whole : Sem Value} (hp : plainTest e = true) : isTrue e env whole = (do let v ← whole; standAt e.pos; holding [v] (truthy v)) := by
  cases e <;> first | rfl | (rename_i op x y; cases op <;> first | rfl | cases hp) | cases hp
theorem WT.plain {e} {P : Bool → AH → Prop} (h : WE G n sc e vm σ fun v σ' => Tr G n v σ' P) (hp : plainTest e = true := by rfl) : WT G n sc e vm σ P := fun c env m ex s Q E ok eo vo I kk =>
  isTrue_plain (h c env m ex s _ E ok eo vo I fun v σ' h' tk p I' => p v rfl c m ex _ Q E ok I' fun b σ' h'' tk' p' I'' => kk b σ' h'' tk' p' I'') (plain_eq hp)
theorem Tr.tBool {b} {P : Bool → AH → Prop} (h : P b σ) : Tr G n (.bool b) σ P := fun v' e c m ex s Q E ok I kk => by
  rw [er_is_bool e]; exact wpAny_truthy_bool (kk b σ s.heap s.toks h I)
theorem Tr.tNone {P : Bool → AH → Prop} (h : P false σ) : Tr G n .none σ P := fun v' e c m ex s Q E ok I kk => by
  rw [er_is_none e]; exact truthy_none (kk false σ s.heap s.toks h I)

def Cmp (G : GX) (n : Nat) (op : CmpOp) (a b : Value) (σ : AH) (P : Value → AH → Prop) : Prop := ∀ a' b', er a' = a → er b' = b → WOp G n (compareOp op a' b') σ P
def Bin (G : GX) (n : Nat) (op : Operator) (a b : Value) (σ : AH) (P : Value → AH → Prop) : Prop := ∀ a' b', er a' = a → er b' = b → WOp G n (binaryOp op a' b') σ P
theorem WE.compare {l op r pos} (h : WE G n sc l vm σ fun a σ₁ => WE G n sc r vm σ₁ fun b σ₂ => Cmp G n op a b σ₂ P) (hm : behindInMarks op r = false := by rfl) : WE G n sc (.Compare l [op] [r] pos) vm σ P :=
  fun c env m ex s Q E ok eo vo I kk => wpAny_Compare1 (h c env m ex s _ E ok eo vo I fun a σ₁ h₁ tk₁ p₁ I₁ => p₁ c env m ex _ _ E ok eo vo I₁ fun b σ₂ h₂ tk₂ p₂ I₂ => p₂ a b rfl rfl c m ex _ _ E ok I₂ fun v σ₃ h₃ tk₃ p₃ I₃ => kk v σ₃ h₃ tk₃ p₃ I₃) hm
theorem WT.compare {l op r pos} {P : Bool → AH → Prop} (h : WE G n sc l vm σ fun a σ₁ => WE G n sc r vm σ₁ fun b σ₂ => Cmp G n op a b σ₂ fun v σ₃ => Tr G n v σ₃ P) (hm : behindInMarks op r = false := by rfl) : WT G n sc (.Compare l [op] [r] pos) vm σ P :=
  fun c env m ex s Q E ok eo vo I kk => wpAny_isTrue_Compare1 (h c env m ex s _ E ok eo vo I fun a σ₁ h₁ tk₁ p₁ I₁ => p₁ c env m ex _ _ E ok eo vo I₁ fun b σ₂ h₂ tk₂ p₂ I₂ => p₂ a b rfl rfl c m ex _ _ E ok I₂ fun v σ₃ h₃ tk₃ p₃ I₃ =>
    p₃ v rfl c m ex _ _ E ok I₃ fun t σ₄ h₄ tk₄ p₄ I₄ => kk t σ₄ h₄ tk₄ p₄ I₄) hm
theorem WE.binop {l op r pos} (h : WE G n sc l vm σ fun a σ₁ => WE G n sc r vm σ₁ fun b σ₂ => Bin G n op a b σ₂ P) : WE G n sc (.BinOp l op r pos) vm σ P :=
  fun c env m ex s Q E ok eo vo I kk => wpAny_BinOp (h c env m ex s _ E ok eo vo I fun a σ₁ h₁ tk₁ p₁ I₁ => p₁ c env m ex _ _ E ok eo vo I₁ fun b σ₂ h₂ tk₂ p₂ I₂ => p₂ a b rfl rfl c m ex _ _ E ok I₂ fun v σ₃ h₃ tk₃ p₃ I₃ => kk v σ₃ h₃ tk₃ p₃ I₃)
theorem WE.ifExp {t b o pos} (h : WT G n sc t vm σ fun c σ' => if c then WE G n sc b vm σ' P else WE G n sc o vm σ' P) : WE G n sc (.IfExp t b o pos) vm σ P :=
  fun c env m ex s Q E ok eo vo I kk => IfExp_ (h c env m ex s _ E ok eo vo I fun b σ' h' tk p I' => by
    cases b with
    | false => exact p c env m ex _ Q E ok eo vo I' fun b σ' h'' tk' p' I'' => kk b σ' h'' tk' p' I''
    | true => exact p c env m ex _ Q E ok eo vo I' fun b σ' h'' tk' p' I'' => kk b σ' h'' tk' p' I'')
theorem WE.boolOne {op e pos} (h : WE G n sc e vm σ P) : WE G n sc (.BoolOp op [e] pos) vm σ P := fun c env m ex s Q E ok eo vo I kk => BoolOp_one (h c env m ex s Q E ok eo vo I kk)
theorem WE.and {e₁ e₂ rest pos} (h : WE G n sc e₁ vm σ fun v σ₁ => Tr G n v σ₁ fun b σ₂ => if b then WE G n sc (.BoolOp .And (e₂ :: rest) pos) vm σ₂ P else P v σ₂) : WE G n sc (.BoolOp .And (e₁ :: e₂ :: rest) pos) vm σ P :=
  fun c env m ex s Q E ok eo vo I kk => BoolOp_and (h c env m ex s _ E ok eo vo I fun v σ₁ h₁ tk₁ p₁ I₁ => p₁ v rfl c m ex _ _ E ok I₁ fun b σ₂ h₂ tk₂ p₂ I₂ => by
    cases b with
    | true => exact p₂ c env m ex _ Q E ok eo vo I₂ fun b σ' h'' tk' p' I'' => kk b σ' h'' tk' p' I''
    | false => exact kk v σ₂ h₂ tk₂ p₂ I₂)
theorem WE.or {e₁ e₂ rest pos} (h : WE G n sc e₁ vm σ fun v σ₁ => Tr G n v σ₁ fun b σ₂ => if b then P v σ₂ else WE G n sc (.BoolOp .Or (e₂ :: rest) pos) vm σ₂ P) : WE G n sc (.BoolOp .Or (e₁ :: e₂ :: rest) pos) vm σ P :=
  fun c env m ex s Q E ok eo vo I kk => BoolOp_or (h c env m ex s _ E ok eo vo I fun v σ₁ h₁ tk₁ p₁ I₁ => p₁ v rfl c m ex _ _ E ok I₁ fun b σ₂ h₂ tk₂ p₂ I₂ => by
    cases b with
    | false => exact p₂ c env m ex _ Q E ok eo vo I₂ fun b σ' h'' tk' p' I'' => kk b σ' h'' tk' p' I''
    | true => exact kk v σ₂ h₂ tk₂ p₂ I₂)
theorem WE.unary {op x pos} (h : WE G n sc x vm σ fun v σ₁ => ∀ v', er v' = v → WOp G n (unaryOp op v') σ₁ P) : WE G n sc (.UnaryOp op x pos) vm σ P :=
  fun c env m ex s Q E ok eo vo I kk => UnaryOp_ (h c env m ex s _ E ok eo vo I fun a σ₁ h₁ tk₁ p₁ I₁ => p₁ a rfl c m ex _ _ E ok I₁ fun v σ₃ h₃ tk₃ p₃ I₃ => kk v σ₃ h₃ tk₃ p₃ I₃)
theorem WE.not {x pos} (h : WE G n sc x vm σ fun v σ₁ => Tr G n v σ₁ fun b σ₂ => P (.bool !b) σ₂) : WE G n sc (.UnaryOp .Not x pos) vm σ P :=
  WE.unary (h.mono fun v σ₁ p v' e c m ex s Q E ok I kk => not_of (p v' e c m ex s _ E ok I fun b σ₂ h₂ tk₂ p₂ I₂ => kk (.bool !b) σ₂ h₂ tk₂ p₂ I₂))

/- value operations without a store -/
theorem Bin.addInt {i j t u} (h : P (.int (i + j) 0) σ) : Bin G n .Add (.int i t) (.int j u) σ P := fun a' b' ea eb c m ex s Q E ok I kk => by
  obtain ⟨_, rfl⟩ := er_is_int ea
  obtain ⟨_, rfl⟩ := er_is_int eb
  exact add_int (kk (.int (i + j) _) σ s.heap _ h I)
theorem Cmp.eqInt {i j t u} (h : P (.bool (i == j)) σ) : Cmp G n .Eq (.int i t) (.int j u) σ P := fun a' b' ea eb c m ex s Q E ok I kk => by
  obtain ⟨_, rfl⟩ := er_is_int ea
  obtain ⟨_, rfl⟩ := er_is_int eb
  exact eq_int (kk (.bool _) σ s.heap s.toks h I)
theorem Cmp.ltInt {i j t u} (h : P (.bool (decide (i < j))) σ) : Cmp G n .Lt (.int i t) (.int j u) σ P := fun a' b' ea eb c m ex s Q E ok I kk => by
  obtain ⟨_, rfl⟩ := er_is_int ea
  obtain ⟨_, rfl⟩ := er_is_int eb
  exact lt_int (kk (.bool _) σ s.heap s.toks h I)
theorem Cmp.gtInt {i j t u} (h : P (.bool (decide (j < i))) σ) : Cmp G n .Gt (.int i t) (.int j u) σ P := fun a' b' ea eb c m ex s Q E ok I kk => by
  obtain ⟨_, rfl⟩ := er_is_int ea
  obtain ⟨_, rfl⟩ := er_is_int eb
  exact gt_int (kk (.bool _) σ s.heap s.toks h I)
theorem Cmp.eqStr {x y t u} (h : P (.bool (x == y)) σ) : Cmp G n .Eq (.str x t) (.str y u) σ P := fun a' b' ea eb c m ex s Q E ok I kk => by
  obtain ⟨_, rfl⟩ := er_is_str ea
  obtain ⟨_, rfl⟩ := er_is_str eb
  exact eq_str (kk (.bool _) σ s.heap s.toks h I)
end
-- MObj
def getF (n : Str) : List (Str × Value) → Option Value
  | [] => none
  | (k, x) :: r => if k == n then some x else getF n r
def setF (n : Str) (v : Value) : List (Str × Value) → List (Str × Value)
  | [] => [(n, v)]
  | (k, x) :: r => if k == n then (k, v) :: r else (k, x) :: setF n v r

theorem Fs.ind {M : List (Str × Value) → List DictEntry → Prop} (h0 : M [] []) (h1 : ∀ k r e es t, e.key = .str k t → Fs r es → M r es → M ((k, er e.val) :: r) (e :: es)) {fs : List (Str × Value)} {es : List DictEntry} (hf : Fs fs es) : M fs es := by
  induction fs generalizing es with
  | nil => cases es with | nil => exact h0 | cons _ _ => exact hf.elim
  | cons p r ih =>
    obtain ⟨k, x⟩ := p
    cases es with
    | nil => exact hf.elim
    | cons e es =>
      obtain ⟨⟨t, hk⟩, hx, hr⟩ := hf
      subst hx
      exact h1 k r e es t hk hr (ih hr)
theorem Fs.get {n : Str} {v : Value} {fs : List (Str × Value)} {es : List DictEntry} (hf : Fs fs es) : getF n fs = some v → ∃ v', getL n es = some (some v') ∧ er v' = v := by
  refine Fs.ind (M := fun fs es => getF n fs = some v → ∃ v', getL n es = some (some v') ∧ er v' = v) ?_ ?_ hf
  · intro h; cases h
  · intro k r e es t hk hr ih h
    unfold getF at h
    have hs : e.key.isStr n = (k == n) := by rw [hk]; rfl
    unfold getL
    rw [List.find?_cons, hs]
    split at h
    · rename_i q; cases h; rw [q]; exact ⟨_, rfl, rfl⟩
    · rename_i q
      obtain ⟨v', h1, h2⟩ := ih h
      rw [Bool.eq_false_iff.mpr q]
      refine ⟨v', ?_, h2⟩
      unfold getL at h1
      cases hf : List.find? (fun x => x.key.isStr n) es with
      | some e' => rw [hf] at h1; exact h1
      | none =>
        rw [hf] at h1
        dsimp only at h1
        split at h1 <;> cases h1
theorem Fs.noRef {fs : List (Str × Value)} {es : List DictEntry} (hf : Fs fs es) : es.any (·.refKey) = false :=
  Fs.ind (M := fun _ es => es.any (·.refKey) = false) rfl (fun k r e es t hk _ ih => by rw [List.any_cons, ih]; simp [DictEntry.refKey, hk]) hf
theorem Fs.miss {n : Str} : ∀ {fs : List (Str × Value)} {es : List DictEntry}, Fs fs es → getF n fs = none → getL n es = some none := by
  intro fs es hf h
  have hnr := hf.noRef
  have hfind : es.find? (·.key.isStr n) = none := by
    induction fs generalizing es with
    | nil => cases es with | nil => rfl | cons _ _ => exact hf.elim
    | cons p r ih =>
      obtain ⟨k, x⟩ := p
      cases es with
      | nil => exact hf.elim
      | cons e es =>
        obtain ⟨⟨t, hk⟩, hx, hr⟩ := hf
        unfold getF at h
        have hs : e.key.isStr n = (k == n) := by rw [hk]; rfl
        split at h
        · cases h
        · rename_i q
          rw [List.find?_cons, hs, Bool.eq_false_iff.mpr q]
          exact ih hr h hr.noRef
  unfold getL
  rw [hfind, hnr]; rfl
theorem Fs.some {n : Str} {fs : List (Str × Value)} {es : List DictEntry} (h : Fs fs es) : (getL n es).isSome = true := by
  cases q : getF n fs with
  | none => rw [h.miss q]; rfl
  | some v => obtain ⟨v', h1, _⟩ := h.get q; rw [h1]; rfl
theorem Fs.put {n : Str} {v : Value} {hsh : Int} {t : Tok} {fs : List (Str × Value)} {es : List DictEntry} (hf : Fs fs es) : Fs (setF n (er v) fs) (putL n hsh (.str n t) v es) := by
  refine Fs.ind (M := fun fs es => Fs (setF n (er v) fs) (putL n hsh (.str n t) v es)) ?_ ?_ hf
  · exact ⟨⟨_, rfl⟩, rfl, trivial⟩
  · intro k r e es t hk hr ih
    unfold setF putL
    have hs : e.key.isStr n = (k == n) := by rw [hk]; rfl
    rw [hs]
    split
    · exact ⟨⟨t, hk⟩, rfl, hr⟩
    · exact ⟨⟨t, hk⟩, rfl, ih⟩
theorem Fs.len {fs : List (Str × Value)} {es : List DictEntry} (hf : Fs fs es) : es.length = fs.length :=
  Fs.ind (M := fun fs es => es.length = fs.length) rfl (fun _ _ _ _ _ _ _ ih => congrArg Nat.succ ih) hf

section
variable {G : GX} {c : Cx} {m : Str → Option Value} {ex : Led} {σ σ' : AH} {h h' : Heap} {a : Addr} {ao ao' : AO}

theorem Inv.at_ (I : Inv G c m ex σ h) (ha : σ a = some ao) : ∃ l, Ent G a ao l ∧ News c.h₀ c.L h l := by
  obtain ⟨dom, en, F, N, B⟩ := I
  obtain ⟨q1, q2⟩ := B.ent a ao ha
  exact ⟨_, q2, fun p hp => N p (List.mem_append_left _ (List.mem_flatMap.mpr ⟨a, q1, hp⟩))⟩
theorem Inv.inst {C fs} (I : Inv G c m ex σ h) (ha : σ a = some (.inst C fs)) : ∃ d es n, InstAt h a (instObj C d) C (some (dictOf es n)) ∧ Fs fs es := by
  obtain ⟨l, ⟨d, es, n, rfl, hf⟩, N⟩ := I.at_ ha
  exact ⟨d, es, n, ⟨(N (a, instObj C d) (by simp)).1, rfl, rfl, (N (d, dictOf es n) (by simp)).1⟩, hf⟩
theorem Inv.list {xs} (I : Inv G c m ex σ h) (ha : σ a = some (.list xs)) : ∃ vs n, h.get? a = some (listOf vs n) ∧ vs.toList.map er = xs := by
  obtain ⟨l, ⟨vs, n, rfl, hf⟩, N⟩ := I.at_ ha
  exact ⟨vs, n, (N (a, listOf vs n) (by simp)).1, hf⟩
theorem Inv.tup {xs} (I : Inv G c m ex σ h) (ha : σ a = some (.tup xs)) : ∃ vs n, h.get? a = some (tupOf vs n) ∧ vs.toList.map er = xs := by
  obtain ⟨l, ⟨vs, n, rfl, hf⟩, N⟩ := I.at_ ha
  exact ⟨vs, n, (N (a, tupOf vs n) (by simp)).1, hf⟩
theorem Inv.idict {kvs} (I : Inv G c m ex σ h) (ha : σ a = some (.idict kvs)) : ∃ kv, h.DictOf (intKind G.prog G.w) a kv ∧ kv.map (fun p => (p.1, er p.2)) = kvs ∧ (a == sysModules) = false := by
  obtain ⟨l, ⟨o, kv, rfl, hd, hk, hs⟩, N⟩ := I.at_ ha
  exact ⟨kv, Heap.dictOf_iff.mpr ⟨o, (N (a, o) (by simp)).1, hd⟩, hk, hs⟩
theorem Inv.sdict {kvs} (I : Inv G c m ex σ h) (ha : σ a = some (.sdict kvs)) : ∃ kv, h.DictOf (strKind G.prog G.w) a kv ∧ kv.map (fun p => (p.1, er p.2)) = kvs ∧ (a == sysModules) = false := by
  obtain ⟨l, ⟨o, kv, rfl, hd, hk, hs⟩, N⟩ := I.at_ ha
  exact ⟨kv, Heap.dictOf_iff.mpr ⟨o, (N (a, o) (by simp)).1, hd⟩, hk, hs⟩
theorem isList_of {h : Heap} {a : Addr} {vs : Array Value} {n : Nat} (e : h.get? a = some (listOf vs n)) : h.IsList a vs := ⟨_, e, rfl, n, rfl⟩
theorem isTup_of {h : Heap} {a : Addr} {vs : Array Value} {n : Nat} (e : h.get? a = some (tupOf vs n)) : IsTup h a vs := ⟨_, e, rfl, n, rfl⟩
theorem Inv.KIn {n} (I : Inv G c m ex σ h) (ok : c.Ok G n) : G.K.In h := ok.K.keeps I.fr.keep
end

def readable (K : Frag) (C : Addr) (name : Str) : Bool := plainGet K C name && hasDictIn K C && (match findIn K (.ref C) name with | some at' => noGet K at' | none => false)
def storable (K : Frag) (C : Addr) (name : Str) : Bool :=
  (findIn K (.ref C) "__setattr__" == some (some (.builtin "object.__setattr__"))) && plainOver K C && (takerIn K C name == some none) && hasDictIn K C
def methodIn (K : Frag) (C : Addr) (name : Str) (f : Addr) : Bool :=
  (findIn K (.ref C) "__getattribute__" == some (some (.builtin "object.__getattribute__"))) && (findIn K (.ref C) "__getattr__" == some none) &&
  (findIn K (.ref C) name == some (some (.ref f))) && (typeIn K (.ref f) == some (.type "function")) && keepIn K (.ref f)
theorem handedIn_er (v : Value) : handedIn (er v) = handedIn v := by cases v <;> rfl

section
variable {G : GX} {n : Nat} {sc : Scope} {σ : AH} {vm : VM} {P : Value → AH → Prop} {a : Addr}

theorem WOp.getAttr {C fs name v} (ha : σ a = some (.inst C fs)) (hr : readable G.K C name = true) (hv : getF name fs = some v) (hh : handedIn v = true) (h : P v σ) : WOp G n (getAttr (.ref a) name true) σ P := by
  intro c m ex s Q E ok I kk
  obtain ⟨d, es, k, IA, hf⟩ := I.inst ha
  obtain ⟨v', h1, rfl⟩ := hf.get hv
  unfold readable at hr
  simp only [Bool.and_eq_true] at hr
  obtain ⟨⟨r1, r2⟩, r3⟩ := hr
  split at r3
  · rename_i at' e
    exact get_own I.fr ok.K IA r1 r2 e r3 h1 ((handedIn_er v').symm.trans hh) (kk v' σ s.heap _ h I)
  · cases r3
theorem WUn.setAttr {C fs name v} {P : AH → Prop} (ha : σ a = some (.inst C fs)) (hs : storable G.K C name = true) (hl : (setF name (er v) fs).length ≤ 1000) (h : P (upd σ a (.inst C (setF name (er v) fs)))) : WUn G n (setAttr (.ref a) name v) σ P := by
  intro c m ex s Q E ok I kk
  have I0 := I
  obtain ⟨d0, es0, k0, IA, -⟩ := I.inst ha
  obtain ⟨dom, en, F, N, B⟩ := I
  obtain ⟨pre, ents, post, e, he, put⟩ := B.focus ha
  obtain ⟨d, es, k, rfl, hf⟩ := he
  have nd := B.nd
  rw [e] at N nd
  have e1 : pre ++ [(a, instObj C d), (d, dictOf es k)] ++ post = (pre ++ [(a, instObj C d)]) ++ (d, dictOf es k) :: post := by simp
  rw [e1] at N nd
  have IA : InstAt s.heap a (instObj C d) C (some (dictOf es k)) := ⟨(N (a, instObj C d) (by simp)).1, rfl, rfl, (N (d, dictOf es k) (by simp)).1⟩
  unfold storable at hs
  simp only [Bool.and_eq_true, beq_iff_eq] at hs
  obtain ⟨⟨⟨r1, r2⟩, r3⟩, r4⟩ := hs
  refine W.set_dict F ok.K N IA rfl r1 r2 r3 r4 hf.some rfl (upd_of nd) ?_ fun h' F' N' => ?_
  · rw [(hf.put (hsh := PyData.keyHash G.w.params name) (t := s.toks + 1) (n := name) (v := v)).len]; exact hl
  · obtain ⟨en', e', B'⟩ := put (.inst C (setF name (er v) fs)) [(a, instObj C d), (d, dictOf _ _)] ⟨d, _, _, rfl, hf.put⟩ rfl
    refine kk _ h' _ h ⟨dom, en', F', ?_, B'⟩
    rw [e']
    simpa using N'

theorem getMethod_inst {c : Cx} {m ex} {s : Shared} {C fs name f} {pl : Sem Bool} {Q : Value × List Value → Shared → Prop} {E} (ok : c.Ok G n) (I : Inv G c m ex σ s.heap) (ha : σ a = some (.inst C fs)) (hm : methodIn G.K C name f = true) (hv : getF name fs = none)
    (h : Q (.ref f, [.ref a]) s) : wpAny (model G.prog G.w) c.A (getMethod (.ref a) name pl) Q E s := by
  obtain ⟨d, es, k, IA, hf⟩ := I.inst ha
  unfold methodIn at hm
  simp only [Bool.and_eq_true, beq_iff_eq] at hm
  obtain ⟨⟨⟨⟨r1, r2⟩, r3⟩, r4⟩, r5⟩ := hm
  refine method_fn (I.KIn ok) IA r1 r2 r3 r4 ?_ h
  show Option.map (fun x => x.isSome) (lookIn name (dictOf es k)) = some false
  rw [lookIn_dict, hf.miss hv]; rfl

/-- a thing that may be called -/
def Callee (G : GX) : Value → Prop
  | .ref a => keepIn G.K (.ref a) = true
  | .builtin _ => True
  | .type _ => True
  | _ => False
theorem Callee.keeper {f : Value} (h : Callee G f) (M : Model) (hp : Heap) (X : G.K.In hp) : ∃ k, (k = Keeper.frame ∨ k = Keeper.machine ∨ k = Keeper.boundFrame) ∧ Looks M hp (keeperOf f) k := by
  cases f <;> first | exact h.elim | exact keeps_K h hp X | exact ⟨.machine, .inr (.inl rfl), Looks.now⟩
theorem Callee.er {f : Value} (h : Callee G (er f)) : er f = f := by cases f <;> first | rfl | exact h.elim
def noStar (es : List Expr) : Bool := es.all fun e => match e with | .Starred _ _ => false | _ => true
theorem starEach_of {e : Expr} {rest : List Expr} {env : Env} (h : noStar (e :: rest) = true) : starEach (e :: rest) env = (false, eval e env) :: starEach rest env := by
  unfold noStar at h
  rw [List.all_cons] at h
  cases e <;> first | rfl | simp at h
theorem noStar_any {pos : Pos} {env : Env} : ∀ {es : List Expr}, noStar es = true → (backTo pos (starEach es env)).any (·.1) = false
  | [], _ => rfl
  | e :: r, h => by
    rw [starEach_of h]
    have : noStar r = true := by unfold noStar at h ⊢; rw [List.all_cons] at h; exact (Bool.and_eq_true_iff.mp h).2
    show (false || (backTo pos (starEach r env)).any (·.1)) = false
    rw [noStar_any this]; rfl
theorem WArgs.run {c : Cx} {env : Env} {m ex} {pos : Pos} {E : Value → Shared → Prop} (ok : c.Ok G n) (eo : EnvOk sc env) (vo : VmOk G env c.L m ex vm) :
    ∀ {es : List Expr} {σ : AH} {P : List Value → AH → Prop} {s : Shared} {Q : List Value → Shared → Prop}, noStar es = true → WArgs G n sc vm es σ P → Inv G c m ex σ s.heap →
    (∀ vs σ' h' tk, P (vs.map er) σ' → Inv G c m ex σ' h' → Q vs { s with heap := h', toks := tk }) → wpAny (model G.prog G.w) c.A (spliced (backTo pos (starEach es env))) Q E s
  | [], σ, P, s, Q, _, h, I, kk => spliced_nil (kk [] σ s.heap s.toks h I)
  | e :: r, σ, P, s, Q, hn, h, I, kk => by
    have hr : noStar r = true := by unfold noStar at hn ⊢; rw [List.all_cons] at hn; exact (Bool.and_eq_true_iff.mp hn).2
    refine args_cons (h c env m ex s _ E ok eo vo I fun v σ' h' tk p I' => ?_) (starEach_of hn)
    exact WArgs.run ok eo vo hr p I' fun vs σ'' h'' tk' p' I'' => kk (v :: vs) σ'' h'' tk' p' I''

theorem callWith_W {c : Cx} {env : Env} {m ex} {pos : Pos} {E : Value → Shared → Prop} {f : Value} {first : List Value} {es : List Expr} {s : Shared} {Q : Value → Shared → Prop} (ok : c.Ok G n) (eo : EnvOk sc env) (vo : VmOk G env c.L m ex vm) (hn : noStar es = true) (hf : Callee G f)
    (h : WArgs G n sc vm es σ fun vs σ₂ => WCall G n f (first.map er ++ vs) σ₂ P) (I : Inv G c m ex σ s.heap)
    (kk : ∀ v σ' h' tk, P (er v) σ' → Inv G c m ex σ' h' → Q v { s with heap := h', toks := tk }) : wpAny (model G.prog G.w) c.A (callWith pos f first (backTo pos (starEach es env)) []) Q E s := by
  refine callWith_of (P := fun hp => G.K.In hp) (by rw [noStar_any hn]; rfl) (fun hp X => hf.keeper _ hp X) ?_
  cases es with
  | nil =>
    refine evalArgs_nil3 ⟨I.KIn ok, ?_⟩
    have h' : WCall G n f (first.map er ++ []) σ P := h
    exact h' (first ++ []) (by simp) c m ex s Q E ok I kk
  | cons e r =>
    have hn' := hn
    rw [starEach_of hn]
    refine evalArgs_plain ?_
    have z := WArgs.run (pos := pos) (E := E) (s := s) (Q := fun vs s' => G.K.In s'.heap ∧ wpAny (model G.prog G.w) c.A (call f (first ++ vs) []) Q E s') ok eo vo hn' h I
      (fun vs σ' h' tk p I' => ⟨I'.KIn ok, p (first ++ vs) (by simp) c m ex _ Q E ok I' fun v σ'' h'' tk'' p'' I'' => kk v σ'' h'' tk'' p'' I''⟩)
    rw [starEach_of hn] at z
    exact z

theorem WE.call {func args pos} (h : WE G n sc func vm σ fun f σ₁ => Callee G f ∧ WArgs G n sc vm args σ₁ fun vs σ₂ => WCall G n f vs σ₂ P) (hn : noStar args = true := by rfl)
    (he : ∀ env, eval (.Call func args [] pos) env = (do callWith pos (← eval func env) [] (backTo pos (starEach args env)) (backToKw pos (keywordEach [] env))) := by intro _; rfl) : WE G n sc (.Call func args [] pos) vm σ P := by
  intro c env m ex s Q E ok eo vo I kk
  refine Call_ (h c env m ex s _ E ok eo vo I fun f σ₁ h₁ tk₁ p₁ I₁ => ?_) (he env)
  have e := Callee.er p₁.1
  rw [e] at p₁
  exact callWith_W ok eo vo hn p₁.1 (first := []) (by simpa using p₁.2) I₁ fun v σ' h' tk p I' => kk v σ' h' tk p I'
end
-- MSeq
def KMap (G : GX) (a : Addr) (f : Str → Option Value) : Prop := (a == sysModules) = false ∧ ∀ h, G.K.In h → h.MapOf (strKind G.prog G.w) a f
def KTup (G : GX) (a : Addr) (xs : List Value) : Prop := ∀ h, G.K.In h → ∃ vs : Array Value, IsTup h a vs ∧ vs.toList.map er = xs

theorem seqIndex_pos {k : Int} {n : Nat} (h0 : 0 ≤ k) (h : k.toNat < n) : seqIndex? k n = some k.toNat := by
  have h1 : ¬ k < 0 := by omega
  have h2 : k < (n : Int) := by omega
  simp [seqIndex?, h1, h0, h2]
theorem sl_le {n : Nat} (h : n ≤ 200000) : n ≤ sizeLine := by rw [sizeLine_eq]; omega

section
variable {G : GX} {n : Nat} {sc : Scope} {σ : AH} {vm : VM} {P : Value → AH → Prop} {a : Addr}

theorem map_get {vs : Array Value} {xs : List Value} {k : Nat} {x : Value} (e : vs.toList.map er = xs) (h : xs[k]? = some x) : ∃ v, vs[k]? = some v ∧ er v = x := by
  subst e
  rw [List.getElem?_map] at h
  cases q : vs.toList[k]? with
  | none => rw [q] at h; cases h
  | some v => rw [q] at h; exact ⟨v, by simpa using q, Option.some.inj h⟩
theorem map_size {vs : Array Value} {xs : List Value} (e : vs.toList.map er = xs) : vs.size = xs.length := by subst e; simp

/- making -/
theorem WOp.newList {vs : List Value} {xs} (e : vs.map er = xs) (hl : xs.length ≤ 100000) (h : ∀ x, σ x = none → P (.ref x) (upd σ x (.list xs))) : WOp G n (newList vs) σ P := by
  intro c m ex s Q E ok I kk
  obtain ⟨news, F, N, put⟩ := I.alloc
  refine newList_K F N (fun l h' F' N' hlt => ?_) (by rw [← e] at hl; simpa using sl_le (n := vs.length) (by simp at hl; omega))
  obtain ⟨q1, q2⟩ := put l [(l, listOf vs.toArray 0)] (.list xs) h' ⟨_, _, rfl, by simpa using e⟩ (by simp) (fun q hq p hp => by simp at hq; subst hq; exact Nat.ne_of_gt (hlt p hp)) F' N'
  exact kk _ _ h' s.toks (h l q1) q2
theorem WOp.newTuple {vs : List Value} {xs} (e : vs.map er = xs) (hl : xs.length ≤ 100000) (h : ∀ x, σ x = none → P (.ref x) (upd σ x (.tup xs))) : WOp G n (newTuple vs) σ P := by
  intro c m ex s Q E ok I kk
  obtain ⟨news, F, N, put⟩ := I.alloc
  refine newTuple_N F N (fun h' F' N' => ?_) (by rw [← e] at hl; simpa using sl_le (n := vs.length) (by simp at hl; omega))
  obtain ⟨q1, q2⟩ := put s.heap.objs.size [(s.heap.objs.size, tupOf vs.toArray 0)] (.tup xs) h' ⟨_, _, rfl, by simpa using e⟩ (by simp) (fun q hq p hp => by simp at hq; subst hq; exact Nat.ne_of_gt (Heap.lt_size (N p hp).1)) F' N'
  exact kk _ _ h' s.toks (h _ q1) q2
theorem WE.list {es pos} (h : WArgs G n sc vm es σ fun xs σ₁ => xs.length ≤ 100000 ∧ ∀ x, σ₁ x = none → P (.ref x) (upd σ₁ x (.list xs))) (hn : noStar es = true := by rfl) : WE G n sc (.List es pos) vm σ P :=
  fun c env m ex s Q E ok eo vo I kk => List_ (WArgs.run ok eo vo hn h I fun vs σ' h' tk p I' => (WOp.newList rfl p.1 p.2) c m ex _ Q E ok I' fun v σ'' h'' tk' p' I'' => kk v σ'' h'' tk' p' I'')
theorem WE.tuple {es k pos} (h : WArgs G n sc vm es σ fun xs σ₁ => xs.length ≤ 100000 ∧ ∀ x, σ₁ x = none → P (.ref x) (upd σ₁ x (.tup xs))) (hn : noStar es = true := by rfl) : WE G n sc (.Tuple es k pos) vm σ P :=
  fun c env m ex s Q E ok eo vo I kk => Tuple_ (WArgs.run ok eo vo hn h I fun vs σ' h' tk p I' => (WOp.newTuple rfl p.1 p.2) c m ex _ Q E ok I' fun v σ'' h'' tk' p' I'' => kk v σ'' h'' tk' p' I'')
theorem newDict_W {c : Cx} {env : Env} {m ex pos} {s : Shared} {Q : Value → Shared → Prop} {E} (ok : c.Ok G n) (I : Inv G c m ex σ s.heap)
    (kk : ∀ x h', σ x = none → (∀ ao, (∀ o, (x == sysModules) = false → o.IsDictOf (strKind G.prog G.w) [] → o.IsDictOf (intKind G.prog G.w) [] → Ent G x ao [(x, o)]) → Inv G c m ex (upd σ x ao) h') → Q (.ref x) { s with heap := h' }) :
    wpAny (model G.prog G.w) c.A (eval (.Dict [] [] pos) env) Q E s := by
  obtain ⟨news, F, N, put⟩ := I.alloc
  refine newDict_K F N ok.T.nolimit fun d h' o F' N' hlt lo i1 _ i2 _ => ?_
  have hd : ∀ q ∈ keys [(d, o)], ∀ p ∈ news, q ≠ p.1 := fun q hq p hp => by simp at hq; subst hq; exact Nat.ne_of_gt (hlt p hp)
  have z := fun ao he => put d [(d, o)] ao h' he (by simp) hd F' N'
  exact kk d h' (z (.idict []) ⟨o, [], rfl, i2, rfl, lo⟩).1 fun ao he => (z ao (he o lo i1 i2)).2
theorem WE.idict {pos} (h : ∀ x, σ x = none → P (.ref x) (upd σ x (.idict []))) : WE G n sc (.Dict [] [] pos) vm σ P :=
  fun c env m ex s Q E ok eo vo I kk => newDict_W ok I fun x h' hx hi => kk (.ref x) _ h' s.toks (h x hx) (hi (.idict []) fun o lo i1 i2 => ⟨o, [], rfl, i2, rfl, lo⟩)
theorem WE.sdict {pos} (h : ∀ x, σ x = none → P (.ref x) (upd σ x (.sdict []))) : WE G n sc (.Dict [] [] pos) vm σ P :=
  fun c env m ex s Q E ok eo vo I kk => newDict_W ok I fun x h' hx hi => kk (.ref x) _ h' s.toks (h x hx) (hi (.sdict []) fun o lo i1 i2 => ⟨o, [], rfl, i1, rfl, lo⟩)

/- attributes -/
def notBare : Expr → Bool
  | .Call (.Name ..) [] [] _ => false
  | _ => true
theorem WE.attr {value attr pos} (h : WE G n sc value vm σ fun o σ₁ => ∃ a C fs v, o = .ref a ∧ σ₁ a = some (.inst C fs) ∧ readable G.K C attr = true ∧ getF attr fs = some v ∧ handedIn v = true ∧ P v σ₁)
    (he : ∀ env, eval (.Attribute value attr pos) env = (do
      let o ← eval value env
      standAt pos.atName
      let r ← holding [o] (getAttr o attr true)
      letTemporaryGo value o r
      pure r) := by intro _; with_unfolding_all rfl) : WE G n sc (.Attribute value attr pos) vm σ P :=
  fun c env m ex s Q E ok eo vo I kk => Attribute_any_ (h c env m ex s _ E ok eo vo I fun o σ₁ h₁ tk₁ p I₁ => by
    obtain ⟨a, C, fs, v, e, ha, hr, hv, hh, p⟩ := p
    rw [er_is_ref e]
    exact WOp.getAttr ha hr hv hh p c m ex _ Q E ok I₁ fun v' σ' h' tk' p' I' => kk v' σ' h' tk' p' I') (he env)

/- subscripts -/
inductive SubP (G : GX) (σ : AH) (P : Value → AH → Prop) : Value → Value → Prop
  | list {a xs k t x} : σ a = some (.list xs) → 0 ≤ k → k < 2 ^ 63 → xs[k.toNat]? = some x → P x σ → SubP G σ P (.ref a) (.int k t)
  | listNeg {a xs k t x} : σ a = some (.list xs) → k < 0 → -(2 ^ 63) ≤ k → -(xs.length : Int) ≤ k → xs[(k + xs.length).toNat]? = some x → P x σ → SubP G σ P (.ref a) (.int k t)
  | tup {a xs k t x} : σ a = some (.tup xs) → 0 ≤ k → k < 2 ^ 63 → xs[k.toNat]? = some x → P x σ → SubP G σ P (.ref a) (.int k t)
  | kmap {a f y t v} : KMap G a f → f y = some v → P (er v) σ → SubP G σ P (.ref a) (.str y t)
def notSlice : Expr → Bool
  | .Slice .. => false
  | _ => true
theorem subscripted_of {slice : Expr} {o i : Value} (h : notSlice slice = true) : subscripted slice false o i = operate [o, i] (getItem o i) := by
  cases slice <;> first | rfl | cases h
theorem WE.sub {value slice pos} (h : WE G n sc value vm σ fun o σ₁ => WE G n sc slice vm σ₁ fun i σ₂ => SubP G σ₂ P o i) (hs : notSlice slice = true := by rfl) : WE G n sc (.Subscript value slice pos) vm σ P :=
  fun c env m ex s Q E ok eo vo I kk => Subscript_ (h c env m ex s _ E ok eo vo I fun o σ₁ h₁ tk₁ p₁ I₁ => p₁ c env m ex _ _ E ok eo vo I₁ fun i σ₂ h₂ tk₂ p₂ I₂ => by
    generalize eo' : er o = o' at p₂
    generalize ei : er i = i' at p₂
    cases p₂ with
    | list ha h0 hh hx p =>
      obtain ⟨t, rfl⟩ := er_is_int ei
      rw [er_is_ref eo']
      obtain ⟨vs, k, hv, e⟩ := I₂.list ha
      obtain ⟨v, h3, rfl⟩ := map_get e hx
      exact tail_any (isList_of hv).typeIs slot_list_getitem.lookup (wpAny_getItem_list (isList_of hv) h0 hh h3 (kk v _ h₂ tk₂ p I₂)) (subscripted_of hs)
    | listNeg ha h0 hh hle hx p =>
      obtain ⟨t, rfl⟩ := er_is_int ei
      rw [er_is_ref eo']
      obtain ⟨vs, k, hv, e⟩ := I₂.list ha
      obtain ⟨v, h3, rfl⟩ := map_get e hx
      have hz := map_size e
      exact tail_any (isList_of hv).typeIs slot_list_getitem.lookup (wpAny_getItem_list_neg (isList_of hv) h0 (by omega) hh (by rw [hz]; exact h3) (kk v _ h₂ tk₂ p I₂)) (subscripted_of hs)
    | tup ha h0 hh hx p =>
      obtain ⟨t, rfl⟩ := er_is_int ei
      rw [er_is_ref eo']
      obtain ⟨vs, k, hv, e⟩ := I₂.tup ha
      obtain ⟨v, h3, rfl⟩ := map_get e hx
      have hlt := (Array.getElem?_eq_some_iff.mp h3).1
      exact tail_any (isTup_of hv).typeIs slot_tuple_getitem.lookup (getItem_tuple (isTup_of hv) (by omega) hh (seqIndex_pos h0 hlt) h3 (kk v _ h₂ tk₂ p I₂)) (subscripted_of hs)
    | kmap hm hf p =>
      obtain ⟨t, rfl⟩ := er_is_str ei
      rw [er_is_ref eo']
      have X := hm.2 _ (I₂.KIn ok)
      exact tail_any X.typeIs slot_dict_getitem.lookup (wpAny_getItem_of (strKind_is G.prog G.w _ t) X hf (kk _ _ h₂ _ p I₂)) (subscripted_of hs))

/- built-in calls -/
theorem args1 {a : Value} {l : List Value} (e : l.map er = [a]) : ∃ v, l = [v] ∧ er v = a := by
  cases l with
  | nil => cases e
  | cons v r => cases r with
    | nil => exact ⟨v, rfl, by simpa using e⟩
    | cons _ _ => simp at e
theorem args2 {a b : Value} {l : List Value} (e : l.map er = [a, b]) : ∃ u v, l = [u, v] ∧ er u = a ∧ er v = b := by
  cases l with
  | nil => cases e
  | cons u r =>
    simp only [List.map_cons, List.cons.injEq] at e
    obtain ⟨v, rfl, h⟩ := args1 e.2
    exact ⟨u, v, rfl, e.1, h⟩
theorem args3 {a b d : Value} {l : List Value} (e : l.map er = [a, b, d]) : ∃ u v w, l = [u, v, w] ∧ er u = a ∧ er v = b ∧ er w = d := by
  cases l with
  | nil => cases e
  | cons u r =>
    simp only [List.map_cons, List.cons.injEq] at e
    obtain ⟨v, w, rfl, h⟩ := args2 e.2
    exact ⟨u, v, w, rfl, e.1, h⟩
theorem ent_list1 {a : Addr} {xs : List Value} : ∀ l, Ent G a (.list xs) l → ∃ o, l = [(a, o)] := fun _ ⟨vs, n, h, _⟩ => ⟨_, h⟩

theorem WCall.len {xs t} (ha : σ a = some (.list xs)) (hz : xs.length ≤ 100000) (h : P (.int xs.length t) σ) (ht : t = 0 := by rfl) : WCall G n (.builtin "len") [.ref a] σ P := by
  subst ht
  intro l e c m ex s Q E ok I kk
  obtain ⟨v, rfl, e1⟩ := args1 e
  rw [er_is_ref e1]
  obtain ⟨vs, k, hv, e2⟩ := I.list ha
  have hs := map_size e2
  exact len_list (isList_of hv) (by rw [hs]; omega) (kk (.int vs.size _) _ s.heap _ (by rw [hs]; exact h) I)
theorem WCall.append {xs v} (ha : σ a = some (.list xs)) (hz : xs.length ≤ 100000) (h : P .none (upd σ a (.list (xs ++ [v])))) : WCall G n (.builtin "list.append") [.ref a, v] σ P := by
  intro l e c m ex s Q E ok I kk
  obtain ⟨u, v, rfl, e1, rfl⟩ := args2 e
  rw [er_is_ref e1]
  obtain ⟨o, pre, post, ⟨vs, k, he, ex'⟩, F, N, nd, put⟩ := I.focus1 ha ent_list1
  cases he
  have hs := map_size ex'
  refine append_K F N (upd_of nd) (fun h' F' N' => kk .none _ h' s.toks h (put _ _ h' ⟨_, _, rfl, by simp [ex']⟩ F' N')) (by rw [hs]; exact sl_le (by omega))
theorem WCall.pop {xs y} (ha : σ a = some (.list (xs ++ [y]))) (hz : xs.length ≤ 100000) (h : P y (upd σ a (.list xs))) : WCall G n (.builtin "list.pop") [.ref a] σ P := by
  intro l e c m ex s Q E ok I kk
  obtain ⟨u, rfl, e1⟩ := args1 e
  rw [er_is_ref e1]
  obtain ⟨o, pre, post, ⟨vs, k, he, ex'⟩, F, N, nd, put⟩ := I.focus1 ha ent_list1
  cases he
  obtain ⟨p, q, hpq⟩ : ∃ p q, vs.toList = p ++ [q] := by
    have hne : vs.toList ≠ [] := by intro e; rw [e] at ex'; simp at ex'
    exact ⟨_, _, (List.dropLast_concat_getLast hne).symm⟩
  have e2 : p.map er = xs ∧ er q = y := by
    rw [hpq, List.map_append] at ex'
    have := List.append_inj' ex' rfl
    exact ⟨this.1, by simpa using this.2⟩
  obtain ⟨rfl, rfl⟩ := e2
  refine kl_pop (p := p) (y := q) F N (by rw [hpq]; exact kpa_last q p) (upd_of nd) (by rw [hpq]; simp at hz ⊢; exact sl_le (by omega)) fun h' F' N' => kk q _ h' s.toks h (put _ _ h' ⟨_, _, rfl, by simp⟩ F' N')
end
-- MOps
/- data that a value reads as -/
mutual
inductive RdD (σ : AH) : Value → PyData → Prop
  | none : RdD σ .none .none
  | bool (b) : RdD σ (.bool b) (.bool b)
  | int (i t) : RdD σ (.int i t) (.int i)
  | str (x t) : RdD σ (.str x t) (.str x)
  | list {a xs ds} : σ a = some (.list xs) → RdDs σ xs ds → RdD σ (.ref a) (.list ds)
  | tup {a xs ds} : σ a = some (.tup xs) → RdDs σ xs ds → RdD σ (.ref a) (.tuple ds)
inductive RdDs (σ : AH) : List Value → List PyData → Prop
  | nil : RdDs σ [] []
  | cons {v d vs ds} : RdD σ v d → RdDs σ vs ds → RdDs σ (v :: vs) (d :: ds)
end

section
variable {G : GX} {c : Cx} {m : Str → Option Value} {ex : Led} {σ : AH} {h : Heap}
theorem RdD.reads (I : Inv G c m ex σ h) {d : PyData} {v v' : Value} (r : RdD σ v d) (e : er v' = v) : ∃ as, Reads h v' d as := by
  refine RdD.rec (motive_1 := fun v d _ => ∀ v', er v' = v → ∃ as, Reads h v' d as) (motive_2 := fun vs ds _ => ∀ vs', vs'.map er = vs → ∃ as, ReadsAll h vs' ds as) ?_ ?_ ?_ ?_ ?_ ?_ ?_ ?_ r v' e
  · intro v' e; rw [er_is_none e]; exact ⟨_, Reads.none⟩
  · intro b v' e; rw [er_is_bool e]; exact ⟨_, Reads.bool b⟩
  · intro i t v' e; obtain ⟨t', rfl⟩ := er_is_int e; exact ⟨_, Reads.int i t'⟩
  · intro i t v' e; obtain ⟨t', rfl⟩ := er_is_str e; exact ⟨_, Reads.str i t'⟩
  · intro a xs ds ha hd ih v' e
    rw [er_is_ref e]
    obtain ⟨vs, n, hv, ex'⟩ := I.list ha
    obtain ⟨as, r⟩ := ih _ ex'
    exact ⟨_, Reads.list hv rfl rfl r⟩
  · intro a xs ds ha hd ih v' e
    rw [er_is_ref e]
    obtain ⟨vs, n, hv, ex'⟩ := I.tup ha
    obtain ⟨as, r⟩ := ih _ ex'
    exact ⟨_, Reads.tuple hv rfl rfl r⟩
  · intro vs' e
    cases vs' with | nil => exact ⟨_, ReadsAll.nil⟩ | cons _ _ => cases e
  · intro v d vs ds hd hr ih1 ih2 vs' e
    cases vs' with
    | nil => cases e
    | cons v' r' =>
      simp only [List.map_cons, List.cons.injEq] at e
      obtain ⟨as, r1⟩ := ih1 _ e.1
      obtain ⟨bs, r2⟩ := ih2 _ e.2
      exact ⟨_, ReadsAll.cons r1 r2⟩
end

section
variable {G : GX} {n : Nat} {sc : Scope} {σ : AH} {vm : VM} {P : Value → AH → Prop} {a : Addr}

def isN : Value → Bool
  | .none => true
  | _ => false
theorem Cmp.eqData {u v : Value} {d e : PyData} (hu : RdD σ u d) (hv : RdD σ v e) (hd : d.canLay0 = true) (he : e.canLay0 = true) (hk : min d.depth e.depth ≤ 100) (h : P (.bool (PyData.eqv d e)) σ) : Cmp G n .Eq u v σ P := fun a' b' ea eb c m ex s Q E ok I kk => by
  obtain ⟨as, r1⟩ := hu.reads I ea
  obtain ⟨bs, r2⟩ := hv.reads I eb
  exact SeqAt.compareEq_reads r1 r2 hd he (by have := ok.units; omega) (kk (.bool _) σ s.heap s.toks h I)
theorem Cmp.neData {u v : Value} {d e : PyData} (hu : RdD σ u d) (hv : RdD σ v e) (hd : d.canLay0 = true) (he : e.canLay0 = true) (hk : min d.depth e.depth ≤ 100) (h : P (.bool (!PyData.eqv d e)) σ) : Cmp G n .NotEq u v σ P := fun a' b' ea eb c m ex s Q E ok I kk => by
  obtain ⟨as, r1⟩ := hu.reads I ea
  obtain ⟨bs, r2⟩ := hv.reads I eb
  exact SeqAt.compareNe_reads r1 r2 hd he (by have := ok.units; omega) (kk (.bool _) σ s.heap s.toks h I)
/-- lists of unlike lengths, or both empty -/
theorem Cmp.eqListLen {a b : Addr} {xs ys : List Value} (ha : σ a = some (.list xs)) (hb : σ b = some (.list ys)) (hne : xs.length ≠ ys.length) (h : P (.bool false) σ) : Cmp G n .Eq (.ref a) (.ref b) σ P := fun a' b' ea eb c m ex s Q E ok I kk => by
  rw [er_is_ref ea, er_is_ref eb]
  obtain ⟨vs, k, hv, e⟩ := I.list ha
  obtain ⟨ws, k', hw, e'⟩ := I.list hb
  exact SeqAt.eq_list_lengthsAt (isList_of hv) (isList_of hw) (by rw [map_size e, map_size e']; simpa using hne) (by have := ok.units; omega) (kk (.bool _) σ s.heap s.toks h I)
theorem Cmp.eqListNil {a b : Addr} (ha : σ a = some (.list [])) (hb : σ b = some (.list [])) (h : P (.bool true) σ) : Cmp G n .Eq (.ref a) (.ref b) σ P :=
  Cmp.eqData (d := .list []) (e := .list []) (.list ha .nil) (.list hb .nil) rfl rfl (by decide) h
theorem Cmp.neInt {i j t u} (h : P (.bool (i != j)) σ) : Cmp G n .NotEq (.int i t) (.int j u) σ P := fun a' b' ea eb c m ex s Q E ok I kk => by
  obtain ⟨_, rfl⟩ := er_is_int ea
  obtain ⟨_, rfl⟩ := er_is_int eb
  exact PyProof.Rows.ne_int (kk (.bool _) σ s.heap s.toks h I)
theorem Cmp.is_ {v} (h : P (.bool (isN v)) σ) : Cmp G n .Is v .none σ P := fun a' b' ea eb c m ex s Q E ok I kk => by
  rw [er_is_none eb]
  refine is_none_gen (kk (.bool _) σ s.heap s.toks ?_ I)
  subst ea
  cases a' <;> exact h
theorem Cmp.isNot {v} (h : P (.bool (!isN v)) σ) : Cmp G n .IsNot v .none σ P := fun a' b' ea eb c m ex s Q E ok I kk => by
  rw [er_is_none eb]
  refine isnot_none_gen (kk (.bool _) σ s.heap s.toks ?_ I)
  subst ea
  cases a' <;> exact h
theorem Cmp.neStr {x y t u} (h : P (.bool (x != y)) σ) : Cmp G n .NotEq (.str x t) (.str y u) σ P := fun a' b' ea eb c m ex s Q E ok I kk => by
  obtain ⟨_, rfl⟩ := er_is_str ea
  obtain ⟨_, rfl⟩ := er_is_str eb
  exact PyProof.Rows.ne_str (kk (.bool _) σ s.heap s.toks h I)

/- in a dict -/
theorem valueAt_map {K : Type} [DecidableEq K] (kv : List (K × Value)) (k : K) : valueAt (kv.map fun p => (p.1, er p.2)) k = (valueAt kv k).map er := by
  induction kv with
  | nil => rfl
  | cons p r ih =>
    obtain ⟨j, x⟩ := p
    unfold valueAt at ih ⊢
    rw [List.map_cons, List.find?_cons, List.find?_cons]
    by_cases e : j = k
    · simp [e]
    · simp only [e, decide_false]; exact ih
theorem stored_map {K : Type} [DecidableEq K] (kv : List (K × Value)) (k : K) (v : Value) : (stored kv k v).map (fun p => (p.1, er p.2)) = stored (kv.map fun p => (p.1, er p.2)) k (er v) := by
  unfold stored
  have : (kv.map fun p => (p.1, er p.2)).any (fun p => decide (p.1 = k)) = kv.any (fun p => decide (p.1 = k)) := by rw [List.any_map]; rfl
  rw [this]
  split
  · rw [List.map_map, List.map_map]
    refine List.map_congr_left fun p _ => ?_
    simp only [Function.comp]
    split <;> rfl
  · rw [List.map_append]; rfl
theorem valueAt_stored {K : Type} [DecidableEq K] (kv : List (K × Value)) (k j : K) (v : Value) : valueAt (stored kv k v) j = if j = k then some v else valueAt kv j := by
  unfold stored
  split
  · rename_i h
    induction kv with
    | nil => simp at h
    | cons p r ih =>
      obtain ⟨i, x⟩ := p
      unfold valueAt at ih ⊢
      rw [List.map_cons, List.find?_cons, List.find?_cons]
      by_cases e : i = k
      · subst e
        by_cases e' : j = i
        · subst e'; simp
        · have : ¬ i = j := fun q => e' q.symm
          simp only [if_true, this, decide_false, e', if_false]
          by_cases hr : r.any (fun p => decide (p.1 = i)) = true
          · rw [ih hr]; simp [e']
          · have hm : r.map (fun kv => if kv.1 = i then (kv.1, v) else kv) = r := by
              rw [List.any_eq_true] at hr
              refine (List.map_congr_left fun p hp => ?_).trans (List.map_id r)
              rw [if_neg (fun q => hr ⟨p, hp, by simpa using q⟩)]; rfl
            rw [hm]
      · have hr : r.any (fun p => decide (p.1 = k)) = true := by simpa [e] using h
        simp only [e, if_false]
        by_cases e' : i = j
        · subst e'; simp [e]
        · simp only [e', decide_false]; exact ih hr
  · rename_i h
    unfold valueAt
    rw [List.find?_append]
    by_cases e : j = k
    · subst e
      have : List.find? (fun kv => decide (kv.1 = j)) kv = none := by
        rw [List.find?_eq_none]
        intro p hp q
        exact h (List.any_eq_true.mpr ⟨p, hp, q⟩)
      rw [this]; simp
    · have : ¬ k = j := fun q => e q.symm
      cases List.find? (fun kv => decide (kv.1 = j)) kv <;> simp [e, this]

theorem Cmp.inI {kvs k t} (ha : σ a = some (.idict kvs)) (h : P (.bool (valueAt kvs k).isSome) σ) : Cmp G n .In (.int k t) (.ref a) σ P := fun a' b' ea eb c m ex s Q E ok I kk => by
  obtain ⟨t', rfl⟩ := er_is_int ea
  rw [er_is_ref eb]
  obtain ⟨kv, hd, rfl, lo⟩ := I.idict ha
  refine wpAny_in_of (knd := intKind G.prog G.w) (k := k) (by simp [intKind, Value.isInt]) lo hd.mapOf (kk (.bool _) σ s.heap _ ?_ I)
  rw [valueAt_map, Option.isSome_map] at h; exact h
theorem Cmp.notInI {kvs k t} (ha : σ a = some (.idict kvs)) (h : P (.bool (!(valueAt kvs k).isSome)) σ) : Cmp G n .NotIn (.int k t) (.ref a) σ P := fun a' b' ea eb c m ex s Q E ok I kk => by
  obtain ⟨t', rfl⟩ := er_is_int ea
  rw [er_is_ref eb]
  obtain ⟨kv, hd, rfl, lo⟩ := I.idict ha
  refine wpAny_notIn_of (knd := intKind G.prog G.w) (k := k) (by simp [intKind, Value.isInt]) lo hd.mapOf (kk (.bool _) σ s.heap _ ?_ I)
  rw [valueAt_map, Option.isSome_map] at h; exact h
theorem Cmp.inS {kvs k t} (ha : σ a = some (.sdict kvs)) (h : P (.bool (valueAt kvs k).isSome) σ) : Cmp G n .In (.str k t) (.ref a) σ P := fun a' b' ea eb c m ex s Q E ok I kk => by
  obtain ⟨t', rfl⟩ := er_is_str ea
  rw [er_is_ref eb]
  obtain ⟨kv, hd, rfl, lo⟩ := I.sdict ha
  refine wpAny_in_of (knd := strKind G.prog G.w) (k := k) (strKind_is G.prog G.w _ _) lo hd.mapOf (kk (.bool _) σ s.heap _ ?_ I)
  rw [valueAt_map, Option.isSome_map] at h; exact h
/-- a text not in a written tuple of texts -/
theorem Cmp.notInKTup {x t xs} (hk : KTup G a xs) (hs : ∀ v ∈ xs, ∃ y t, v = .str y t) (h : P (.bool (!xs.any fun v => v == .str x 0)) σ) : Cmp G n .NotIn (.str x t) (.ref a) σ P := fun a' b' ea eb c m ex s Q E ok I kk => by
  obtain ⟨t', rfl⟩ := er_is_str ea
  rw [er_is_ref eb]
  obtain ⟨vs, ht, rfl⟩ := hk _ (I.KIn ok)
  obtain ⟨o, ho, hc, k, hd⟩ := ht
  refine SeqAt.notIn_tupleAt (fun v => er v == .str x 0) ⟨o, ho, hc, k, hd⟩ (fun y hy => ?_) (kk (.bool _) σ s.heap _ ?_ I)
  · obtain ⟨z, t, e⟩ := hs (er y) (List.mem_map.mpr ⟨y, by simpa using hy, rfl⟩)
    obtain ⟨t2, rfl⟩ := er_is_str e
    have := SeqAt.EqAt.str_str (A := c.A.in1) (s := s) z t2 x t'
    have e2 : (er (.str z t2) == Value.str x 0) = (z == x) := by
      rw [Bool.eq_iff_iff]; simp
    rw [e2]; exact this
  · have e : (vs.toList.map er).any (fun v => v == .str x 0) = vs.any (fun v => er v == .str x 0) := by rw [List.any_map, ← Array.any_toList]; rfl
    rw [e] at h; exact h

/- arithmetic and texts -/
theorem Bin.powI {i j t u} (h0 : 0 ≤ j) (h1 : j ≤ 1000) (h2 : i.natAbs < 2 ^ 64) (h : P (.int (i ^ j.toNat) 0) σ) : Bin G n .Pow (.int i t) (.int j u) σ P := fun a' b' ea eb c m ex s Q E ok I kk => by
  obtain ⟨_, rfl⟩ := er_is_int ea
  obtain ⟨_, rfl⟩ := er_is_int eb
  exact pow_int_small h0 (by omega) h2 (kk (.int _ _) σ s.heap _ h I)
theorem Bin.addStr {x y t u} (hz : x.length + y.length ≤ 100000) (h : P (.str (x ++ y) 0) σ) : Bin G n .Add (.str x t) (.str y u) σ P := fun a' b' ea eb c m ex s Q E ok I kk => by
  obtain ⟨_, rfl⟩ := er_is_str ea
  obtain ⟨_, rfl⟩ := er_is_str eb
  exact add_str (fun t' tk => kk (.str _ t') σ s.heap tk h I) (sl_le (by omega))
theorem Bin.addList {a b : Addr} {xs ys} (ha : σ a = some (.list xs)) (hb : σ b = some (.list ys)) (hz : xs.length + ys.length ≤ 100000) (h : ∀ x, σ x = none → P (.ref x) (upd σ x (.list (xs ++ ys)))) : Bin G n .Add (.ref a) (.ref b) σ P := fun a' b' ea eb c m ex s Q E ok I kk => by
  rw [er_is_ref ea, er_is_ref eb]
  obtain ⟨vs, k, hv, e⟩ := I.list ha
  obtain ⟨ws, k', hw, e'⟩ := I.list hb
  obtain ⟨news, F, N, put⟩ := I.alloc
  refine add_arrays F N (isList_of hv) (isList_of hw) (fun h' F' N' => ?_) (by rw [map_size e, map_size e']; exact sl_le (by omega))
  obtain ⟨q1, q2⟩ := put s.heap.objs.size [(s.heap.objs.size, listOf (vs.toList ++ ws.toList).toArray 0)] (.list (xs ++ ys)) h' ⟨_, _, rfl, by simp [e, e']⟩ (by simp) (fun q hq p hp => by simp at hq; subst hq; exact Nat.ne_of_gt (Heap.lt_size (N p hp).1)) F' N'
  exact kk _ _ h' s.toks (h _ q1) q2
theorem Tr.list {xs} {P : Bool → AH → Prop} (ha : σ a = some (.list xs)) (hz : xs.length ≤ 100000) (h : P (!xs.isEmpty) σ) : Tr G n (.ref a) σ P := fun v' e c m ex s Q E ok I kk => by
  rw [er_is_ref e]
  obtain ⟨vs, k, hv, e⟩ := I.list ha
  have hs := map_size e
  refine wpAny_truthy_list (isList_of hv) (by rw [hs]; omega) (kk _ σ s.heap _ ?_ I)
  have : vs.isEmpty = xs.isEmpty := by rw [Bool.eq_iff_iff]; simp [Array.isEmpty, hs]
  rw [this]; exact h
end
-- MCalls
def isiOk (K : Frag) (D : Addr) (c : Value) (b : Bool) : Bool :=
  plainGet K D "__class__" && hasDictIn K D && (findIn K (.ref D) "__class__" == some (some (.builtin "object.__class__"))) &&
  (specialIn K (.builtin "object.__class__") "__get__" == some (some (.builtin "getset_descriptor.__get__"))) && (takesIn K (.builtin "object.__class__") == some true) && (mroIn K D (.type "object") == some true) &&
  (kitOne K (.ref D) c == some b)

theorem getD_er (o : Option Value) (v : Value) : er (o.getD v) = (o.map er).getD (er v) := by cases o <;> rfl

section
variable {G : GX} {n : Nat} {sc : Scope} {σ : AH} {vm : VM} {P : Value → AH → Prop} {a : Addr}

theorem WCall.isinst {C fs cl b} (ha : σ a = some (.inst C fs)) (hi : isiOk G.K C cl b = true) (hc : er cl = cl) (hcl : ∀ v, er v = cl → v = cl) (h : P (.bool b) σ) : WCall G n (.builtin "isinstance") [.ref a, cl] σ P := by
  intro l e c m ex s Q E ok I kk
  obtain ⟨u, v, rfl, e1, e2⟩ := args2 e
  rw [er_is_ref e1, hcl v e2]
  obtain ⟨d, es, k, IA, hf⟩ := I.inst ha
  unfold isiOk at hi
  simp only [Bool.and_eq_true, beq_iff_eq] at hi
  obtain ⟨⟨⟨⟨⟨⟨r1, r2⟩, r3⟩, r4⟩, r5⟩, r6⟩, r7⟩ := hi
  exact kia_one (kitx_own r1 r2 r3 r4 r5 r6) (I.KIn ok) IA r7 (by intro q; cases q) fun tk => kk (.bool b) σ s.heap tk h I
theorem WCall.isinstT {C fs T b} (ha : σ a = some (.inst C fs)) (hi : isiOk G.K C (.type T) b = true) (h : P (.bool b) σ) : WCall G n (.builtin "isinstance") [.ref a, .type T] σ P := WCall.isinst ha hi rfl (fun _ => er_is_type) h
theorem WCall.isinstC {C fs D b} (ha : σ a = some (.inst C fs)) (hi : isiOk G.K C (.ref D) b = true) (h : P (.bool b) σ) : WCall G n (.builtin "isinstance") [.ref a, .ref D] σ P := WCall.isinst ha hi rfl (fun _ => er_is_ref) h

theorem WCall.getS {kvs x t} (ha : σ a = some (.sdict kvs)) (h : P ((valueAt kvs x).getD .none) σ) : WCall G n (.builtin "dict.get") [.ref a, .str x t] σ P := by
  intro l e c m ex s Q E ok I kk
  obtain ⟨u, v, rfl, e1, e2⟩ := args2 e
  rw [er_is_ref e1]
  obtain ⟨t', rfl⟩ := er_is_str e2
  obtain ⟨kv, hd, rfl, lo⟩ := I.sdict ha
  refine call_meetsIn PySem.F.slot_dict_get hd.typeIs PySem.F.entry_dict_get (PySem.F.args_dict_get_2 _ _) (meets_dict_get (strKind G.prog G.w) a (strKind_is G.prog G.w x t') lo) ⟨_, hd.mapOf, ?_⟩
  refine kk _ σ s.heap _ ?_ I
  rw [valueAt_map] at h
  rw [getD_er]; exact h
theorem WCall.getSD {kvs x t dv} (ha : σ a = some (.sdict kvs)) (h : P ((valueAt kvs x).getD dv) σ) : WCall G n (.builtin "dict.get") [.ref a, .str x t, dv] σ P := by
  intro l e c m ex s Q E ok I kk
  obtain ⟨u, v, w, rfl, e1, e2, rfl⟩ := args3 e
  rw [er_is_ref e1]
  obtain ⟨t', rfl⟩ := er_is_str e2
  obtain ⟨kv, hd, rfl, lo⟩ := I.sdict ha
  refine call_meetsIn PySem.F.slot_dict_get hd.typeIs PySem.F.entry_dict_get (PySem.F.args_dict_get_3 _ _ _) (meets_dict_get_default (strKind G.prog G.w) a (strKind_is G.prog G.w x t') lo w) ⟨_, hd.mapOf, ?_⟩
  refine kk _ σ s.heap _ ?_ I
  rw [valueAt_map] at h
  rw [getD_er]; exact h
theorem WCall.getKD {f x t dv} (hm : KMap G a f) (h : P (((f x).map er).getD dv) σ) : WCall G n (.builtin "dict.get") [.ref a, .str x t, dv] σ P := by
  intro l e c m ex s Q E ok I kk
  obtain ⟨u, v, w, rfl, e1, e2, rfl⟩ := args3 e
  rw [er_is_ref e1]
  obtain ⟨t', rfl⟩ := er_is_str e2
  have X := hm.2 _ (I.KIn ok)
  refine call_meetsIn PySem.F.slot_dict_get X.typeIs PySem.F.entry_dict_get (PySem.F.args_dict_get_3 _ _ _) (meets_dict_get_default (strKind G.prog G.w) a (strKind_is G.prog G.w x t') hm.1 w) ⟨_, X, ?_⟩
  refine kk _ σ s.heap _ ?_ I
  rw [getD_er]; exact h
theorem WCall.extend {b : Addr} {xs ys} (ha : σ a = some (.list xs)) (hb : σ b = some (.list ys)) (hab : a ≠ b) (hz : xs.length + ys.length ≤ 100000) (h : P .none (upd σ a (.list (xs ++ ys)))) : WCall G n (.builtin "list.extend") [.ref a, .ref b] σ P := by
  intro l e c m ex s Q E ok I kk
  obtain ⟨u, v, rfl, e1, e2⟩ := args2 e
  rw [er_is_ref e1, er_is_ref e2]
  obtain ⟨ws, k', hw, e'⟩ := I.list hb
  obtain ⟨o, pre, post, ⟨vs, k, he, ex'⟩, F, N, nd, put⟩ := I.focus1 ha ent_list1
  cases he
  have hs := map_size ex'
  have hs' := map_size e'
  have z := N (a, listOf vs k) (by simp)
  have hd : ¬(!vs.isEmpty && Builtin.List.listTooLong (vs.size + ws.size)) = true := by
    intro q
    simp only [Bool.and_eq_true] at q
    have := q.2
    unfold Builtin.List.listTooLong at this
    have hl := sizeLine_eq
    simp at this
    omega
  obtain ⟨h1, h2⟩ := nodup_pre nd
  refine call_meets PySem.F.slot_list_extend ⟨_, z.1, rfl⟩ PySem.F.entry_list_extend (PySem.F.args_list_extend_2 _ _) (PySem.AutoSeq1.list_extend_list_list_0 a vs k b ws k' hd (by rw [hs]; exact sl_le (by omega)) (by rw [hs, hs']; exact Nat.le_succ_of_le (sl_le (by omega)))) ⟨z.1, hw, ?_⟩
  have hu := PySem.IsL.update z.1 (fun x => x ++ ws)
  refine kk .none _ _ _ h (put _ (listOf (vs ++ ws) (if (vs ++ ws).size == vs.size then k else k + 1)) _ ⟨_, _, rfl, by simp [ex', e']⟩ (F.change (Heap.SameBut.update ..) z.2.1 z.2.2) (news_set N h1 h2 (Heap.SameBut.update ..) hu))
/-- where an int stands in a list of ints -/
theorem WCall.index {xs : List Value} {k t} {j : Nat} (ha : σ a = some (.list xs)) (hz : xs.length ≤ 100000) (hint : ∀ v ∈ xs, ∃ i, v = .int i 0) (hj : xs[j]? = some (.int k 0)) (hno : ∀ i, i < j → xs[i]? ≠ some (.int k 0))
    (h : P (.int j 0) σ) : WCall G n (.builtin "list.index") [.ref a, .int k t] σ P := by
  intro l e c m ex s Q E ok I kk
  obtain ⟨u, v, rfl, e1, e2⟩ := args2 e
  rw [er_is_ref e1]
  obtain ⟨t', rfl⟩ := er_is_int e2
  obtain ⟨vs, q, hv, e'⟩ := I.list ha
  have hs := map_size e'
  have hjl : j < vs.size := by rw [hs]; exact (List.getElem?_eq_some_iff.mp hj).1
  have key : ∀ i (hi : i < vs.size), xs[i]? = some (er vs[i]) := fun i hi => by subst e'; simp [hi]
  refine call_meets PySem.F.slot_list_index ⟨_, hv, rfl⟩ PySem.F.entry_list_index (PySem.F.args_list_index_2 _ _)
    (SeqAt.list_indexAt a vs q none #[] (.int k t') (fun v => er v == .int k 0) j hjl (by omega) ?_ ?_) ⟨hv, ?_, kk (.int j _) σ s.heap _ h I⟩
  · have := key j hjl
    rw [hj] at this
    have := Option.some.inj this
    rw [← this]; simp
  · intro i hi hij
    rw [beq_eq_false_iff_ne]
    intro q
    exact hno i hij (by rw [key i hi, q])
  · intro y hy
    have hm : er y ∈ xs := by subst e'; exact List.mem_map.mpr ⟨y, by simpa using hy, rfl⟩
    obtain ⟨i, hi⟩ := hint _ hm
    obtain ⟨t2, rfl⟩ := er_is_int hi
    have e3 : (er (.int i t2) == Value.int k 0) = (i == k) := by rw [Bool.eq_iff_iff]; simp
    rw [e3]
    exact SeqAt.EqAt.int_int i t2 k t'
theorem WCall.strInt {i t} (hi : i.natAbs.log2 < 1920) (h : P (.str (Str.ofString (toString i)) 0) σ) : WCall G n (.type "str") [.int i t] σ P := by
  intro l e c m ex s Q E ok I kk
  obtain ⟨u, rfl, e1⟩ := args1 e
  obtain ⟨t', rfl⟩ := er_is_int e1
  exact PySem.P.str_of_int hi (kk (.str _ _) σ s.heap _ h I)
theorem WCall.abs {i t} (h : P (.int (if i < 0 then -i else i) 0) σ) : WCall G n (.builtin "abs") [.int i t] σ P := by
  intro l e c m ex s Q E ok I kk
  obtain ⟨u, rfl, e1⟩ := args1 e
  obtain ⟨t', rfl⟩ := er_is_int e1
  exact call_abs_int fun u tk => kk (.int _ u) σ s.heap tk h I

/- method calls -/
theorem WE.meth {o name apos args pos} (h : WE G n sc o vm σ fun ov σ₁ => ∃ x C fs f, ov = .ref x ∧ σ₁ x = some (.inst C fs) ∧ methodIn G.K C name f = true ∧ getF name fs = none ∧ WArgs G n sc vm args σ₁ fun vs σ₂ => WCall G n (.ref f) (.ref x :: vs) σ₂ P)
    (hn : noStar args = true := by rfl)
    (he : ∀ env, ∃ pl, eval (.Call (.Attribute o name apos) args [] pos) env = (do
      let ov ← eval o env
      standAt apos.atName
      let (f, first) ← holding [ov] (getMethod ov name pl)
      callWith pos f first (backTo pos (starEach args env)) []) := by intro _; exact ⟨_, rfl⟩) : WE G n sc (.Call (.Attribute o name apos) args [] pos) vm σ P := by
  intro c env m ex s Q E ok eo vo I kk
  obtain ⟨pl, he⟩ := he env
  refine MethodCall_ (pl := pl) (h c env m ex s _ E ok eo vo I fun ov σ₁ h₁ tk₁ p I₁ => ?_) he
  obtain ⟨x, C, fs, f, e, ha, hm, hg, p⟩ := p
  rw [er_is_ref e]
  refine getMethod_inst (Q := fun fx s₂ => wpAny (model G.prog G.w) c.A (callWith pos fx.1 fx.2 (backTo pos (starEach args env)) []) Q E s₂) ok I₁ ha hm hg ?_
  have hk : Callee G (.ref f) := by
    unfold methodIn at hm
    simp only [Bool.and_eq_true] at hm
    exact hm.2
  exact callWith_W ok eo vo hn hk (first := [.ref x]) p I₁ fun v σ' h' tk p' I' => kk v σ' h' tk p' I'
/-- a built-in type's method -/
inductive BMeth (G : GX) (σ : AH) : Addr → Str → String → Prop
  | list {a xs name id} : σ a = some (.list xs) → Slot "list" name id → typeOf (.builtin id) = pure (.type "method_descriptor") → BMeth G σ a name id
  | sdict {a xs name id} : σ a = some (.sdict xs) → Slot "dict" name id → typeOf (.builtin id) = pure (.type "method_descriptor") → BMeth G σ a name id
  | kmap {a f name id} : KMap G a f → Slot "dict" name id → typeOf (.builtin id) = pure (.type "method_descriptor") → BMeth G σ a name id
theorem WE.bmeth {o name apos args pos} {id : String} (h : WE G n sc o vm σ fun ov σ₁ => ∃ x, ov = .ref x ∧ BMeth G σ₁ x name id ∧ WArgs G n sc vm args σ₁ fun vs σ₂ => WCall G n (.builtin id) (.ref x :: vs) σ₂ P)
    (hn : noStar args = true := by rfl)
    (he : ∀ env, ∃ pl, eval (.Call (.Attribute o name apos) args [] pos) env = (do
      let ov ← eval o env
      standAt apos.atName
      let (f, first) ← holding [ov] (getMethod ov name pl)
      callWith pos f first (backTo pos (starEach args env)) []) := by intro _; exact ⟨_, rfl⟩) : WE G n sc (.Call (.Attribute o name apos) args [] pos) vm σ P := by
  intro c env m ex s Q E ok eo vo I kk
  obtain ⟨pl, he⟩ := he env
  refine MethodCall_ (pl := pl) (h c env m ex s _ E ok eo vo I fun ov σ₁ h₁ tk₁ p I₁ => ?_) he
  obtain ⟨x, e, hb, p⟩ := p
  rw [er_is_ref e]
  have fin : wpAny (model G.prog G.w) c.A (callWith pos (.builtin id) [.ref x] (backTo pos (starEach args env)) []) Q E { s with heap := h₁, toks := tk₁ } :=
    callWith_W (f := .builtin id) ok eo vo hn trivial (first := [.ref x]) p I₁ fun v σ' h' tk p' I' => kk v σ' h' tk p' I'
  cases hb with
  | list ha slot ty =>
    obtain ⟨vs, k, hv, e'⟩ := I₁.list ha
    exact getMethod_builtin ⟨_, hv, rfl⟩ PySem.F.plainAttrs_list slot ty (fun b eb => by cases eb; exact ⟨_, hv, rfl⟩) fin
  | sdict ha slot ty =>
    obtain ⟨kv, hd, rfl, lo⟩ := I₁.sdict ha
    exact getMethod_builtin hd.typeIs PySem.F.plainAttrs_dict slot ty hd.mapOf.noDict fin
  | kmap ha slot ty =>
    have X := ha.2 _ (I₁.KIn ok)
    exact getMethod_builtin X.typeIs PySem.F.plainAttrs_dict slot ty X.noDict fin
end
-- MStm
def erF : Flow → Flow
  | .ret v => .ret (er v)
  | f => f

structure CellsOk (env : Env) (cells : Led) : Prop where
  has : ∀ x, env.kindOf x = some .cell → ∃ a o v, env.cells.lookup x = some a ∧ (a, o) ∈ cells ∧ o.data = .cell v
  inj : ∀ x y a, env.cells.lookup x = some a → env.cells.lookup y = some a → x = y

def WS (G : GX) (n : Nat) (sc : Scope) (ss : List Stmt) (vm : VM) (σ : AH) (P : Flow → VM → AH → Prop) : Prop :=
  ∀ (c : Cx) (m : Str → Option Value) (cells ex : Led) (s : Shared) (Q : Flow → Shared → Prop) (E : Value → Shared → Prop), c.Ok G n → c.fenv.scope = sc → VmOk G c.fenv c.L m cells vm → CellsOk c.fenv cells → Inv G c m (cells ++ ex) σ s.heap →
    (∀ fl vm' σ' m' cells' h' tk, P (erF fl) vm' σ' → VmOk G c.fenv c.L m' cells' vm' → CellsOk c.fenv cells' → Inv G c m' (cells' ++ ex) σ' h' → Q fl { s with heap := h', toks := tk }) →
    wpAny (model G.prog G.w) c.A (execs ss c.fenv) Q E s
def WSt (G : GX) (n : Nat) (sc : Scope) (st : Stmt) (vm : VM) (σ : AH) (P : Flow → VM → AH → Prop) : Prop :=
  ∀ (c : Cx) (m : Str → Option Value) (cells ex : Led) (s : Shared) (Q : Flow → Shared → Prop) (E : Value → Shared → Prop), c.Ok G n → c.fenv.scope = sc → VmOk G c.fenv c.L m cells vm → CellsOk c.fenv cells → Inv G c m (cells ++ ex) σ s.heap →
    (∀ fl vm' σ' m' cells' h' tk, P (erF fl) vm' σ' → VmOk G c.fenv c.L m' cells' vm' → CellsOk c.fenv cells' → Inv G c m' (cells' ++ ex) σ' h' → Q fl { s with heap := h', toks := tk }) →
    wpAny (model G.prog G.w) c.A (exec st c.fenv) Q E s

theorem Cx.Ok.env {G : GX} {c : Cx} {n : Nat} {sc : Scope} (ok : c.Ok G n) (es : c.fenv.scope = sc) : EnvOk sc c.fenv := ⟨es, ok.glob, ok.bi, ok.kind⟩
theorem Rd.mono {G : GX} {env : Env} {L : Addr} {m m'} {ex ex' : Led} {x : Str} {v : Value} (r : Rd G env L m ex x v) (hm : m x = some v → m' x = some v) (hs : ∀ p ∈ ex, env.cells.lookup x = some p.1 ∨ env.locals = p.1 → p ∈ ex') : Rd G env L m' ex' x v := by
  cases r with
  | loc h1 h2 h3 => exact .loc h1 h2 (hm h3)
  | cell h1 h2 h3 h4 => exact .cell h1 h2 (hs _ h3 (.inl h2)) h4
  | free h1 h0 h2 h3 h4 => exact .free h1 h0 h2 (hs _ h3 (.inl h2)) h4
  | comp h1 h2 h3 h4 => exact .comp h1 (hs _ h2 (.inr rfl)) h3 h4
  | glob h1 h2 => exact .glob h1 h2
  | bi h1 h2 h3 h4 => exact .bi h1 h2 h3 h4
theorem VmOk.sub {G : GX} {env : Env} {L : Addr} {m} {ex ex' : Led} {vm : VM} (h : VmOk G env L m ex vm) (hs : ∀ p ∈ ex, p ∈ ex') : VmOk G env L m ex' vm := fun x v e => by
  obtain ⟨hd, v', e', r⟩ := h x v e
  exact ⟨hd, v', e', r.mono id fun p hp _ => hs p hp⟩
theorem VmOk.up {G : GX} {env : Env} {L : Addr} {m} {cells ex : Led} {vm : VM} (h : VmOk G env L m cells vm) : VmOk G env L m (cells ++ ex) vm := h.sub fun _ hp => List.mem_append_left _ hp
theorem Inv.perm {G : GX} {c : Cx} {m : Str → Option Value} {ex ex' : Led} {σ : AH} {h : Heap} (I : Inv G c m ex σ h) (p : ex.Perm ex') : Inv G c m ex' σ h := by
  obtain ⟨dom, en, F, N, B⟩ := I
  refine ⟨dom, en, F, fun q hq => N q ?_, ⟨?_, B.dnd, B.ent⟩⟩
  · rcases List.mem_append.mp hq with hq | hq
    · exact List.mem_append_left _ hq
    · exact List.mem_append_right _ (p.mem_iff.mpr hq)
  · exact (List.Perm.nodup_iff ((List.Perm.append_left _ p).map _)).mp B.nd
theorem Inv.drop {G : GX} {c : Cx} {m : Str → Option Value} {ex ex' : Led} {σ : AH} {h : Heap} (I : Inv G c m (ex' ++ ex) σ h) : Inv G c m ex σ h := by
  obtain ⟨dom, en, F, N, B⟩ := I
  refine ⟨dom, en, F, fun q hq => N q ?_, ⟨?_, B.dnd, B.ent⟩⟩
  · rcases List.mem_append.mp hq with hq | hq
    · exact List.mem_append_left _ hq
    · exact List.mem_append_right _ (List.mem_append_right _ hq)
  · exact B.nd.sublist ((List.Sublist.append (List.Sublist.refl _) (List.sublist_append_right _ _)).map _)

section
variable {G : GX} {n : Nat} {sc : Scope} {σ : AH} {vm : VM} {P P' : Flow → VM → AH → Prop}

theorem WS.mono {ss} (h : WS G n sc ss vm σ P) (hP : ∀ f v s, P f v s → P' f v s) : WS G n sc ss vm σ P' := fun c m cells ex s Q E ok es vo co I kk => h c m cells ex s Q E ok es vo co I fun fl vm' σ' m' cells' h' tk p => kk fl vm' σ' m' cells' h' tk (hP _ _ _ p)
theorem WS.nil (h : P .next vm σ) : WS G n sc [] vm σ P := fun c m cells ex s Q E ok es vo co I kk => wpAny_execs_nil (kk .next vm σ m cells s.heap s.toks h vo co I)
theorem WS.cons {st rest} (h : WSt G n sc st vm σ fun fl vm' σ' => match fl with | .next => WS G n sc rest vm' σ' P | f => P f vm' σ') : WS G n sc (st :: rest) vm σ P :=
  fun c m cells ex s Q E ok es vo co I kk => wpAny_execs_cons (h c m cells ex s _ E ok es vo co I fun fl vm' σ' m' cells' h' tk p vo' co' I' => by
    cases fl with
    | next => exact p c m' cells' ex _ Q E ok es vo' co' I' fun fl'' vm'' σ'' m'' cells'' h'' tk'' p'' vo'' co'' I'' => kk fl'' vm'' σ'' m'' cells'' h'' tk'' p'' vo'' co'' I''
    | brk => exact kk _ _ _ _ _ _ _ p vo' co' I'
    | cont => exact kk _ _ _ _ _ _ _ p vo' co' I'
    | ret v => exact kk _ _ _ _ _ _ _ p vo' co' I')

def stores (sc : Scope) (x : Str) : Bool := (sc.names.lookup x == some .local || sc.names.lookup x == some .cell) && !(x == ("__debug__" : Str))

theorem store_W {c : Cx} {m cells ex} {s : Shared} {x : Str} {v : Value} {Q : Unit → Shared → Prop} {E} (ok : c.Ok G n) (es : c.fenv.scope = sc) (hx : stores sc x = true) (vo : VmOk G c.fenv c.L m cells vm) (co : CellsOk c.fenv cells) (I : Inv G c m (cells ++ ex) σ s.heap)
    (kk : ∀ m' cells' h' tk, VmOk G c.fenv c.L m' cells' (vm.set x (er v)) → CellsOk c.fenv cells' → Inv G c m' (cells' ++ ex) σ h' → Q () { s with heap := h', toks := tk }) :
    wpAny (model G.prog G.w) c.A (storeName c.fenv x v) Q E s := by
  unfold stores at hx
  simp only [Bool.and_eq_true, Bool.or_eq_true, beq_iff_eq, Bool.not_eq_true'] at hx
  obtain ⟨hx, hd⟩ := hx
  rcases hx with hx | hx
  · have hk : c.fenv.kindOf x = some .local := by unfold Env.kindOf; rw [es]; exact hx
    refine wpAny_storeName_local hk I.fr.ns (fun h' hn hs => ?_) (by rw [ok.kind]; rfl)
    obtain ⟨dom, en, F, N, B⟩ := I
    refine kk (fun y => if y = x then some v else m y) cells h' _ (fun y u e => ?_) co ⟨dom, en, F.set hn hs, N.set hs, B⟩
    by_cases q : y = x
    · subst q
      simp only [VM.set, if_true] at e
      cases e
      exact ⟨hd, v, rfl, .loc hk rfl (by simp)⟩
    · simp only [VM.set, if_neg q] at e
      obtain ⟨hd', v', e', r⟩ := vo y u e
      exact ⟨hd', v', e', r.mono (fun h3 => (if_neg q).trans h3) fun p hp _ => hp⟩
  · have hk : c.fenv.kindOf x = some .cell := by unfold Env.kindOf; rw [es]; exact hx
    obtain ⟨a, o, v0, hl, hm, hdat⟩ := co.has x hk
    refine wpAny_storeName_cell ok.kind hk hl ⟨o, (I.exN _ (List.mem_append_left _ hm)).1, hdat⟩ fun h' hv hs => ?_
    obtain ⟨o', ho', hd'⟩ := hv
    obtain ⟨dom, en, F, N, B⟩ := I
    obtain ⟨c1, c2, rfl⟩ := List.append_of_mem hm
    have nd := B.nd
    have e1 : dom.flatMap en ++ ((c1 ++ (a, o) :: c2) ++ ex) = (dom.flatMap en ++ c1) ++ (a, o) :: (c2 ++ ex) := by simp
    have e2 : dom.flatMap en ++ ((c1 ++ (a, o') :: c2) ++ ex) = (dom.flatMap en ++ c1) ++ (a, o') :: (c2 ++ ex) := by simp
    have ndk : (keys ((dom.flatMap en ++ c1) ++ (a, o') :: (c2 ++ ex))).Nodup := by rw [e1] at nd; simpa [keys] using nd
    rw [e1] at N nd
    obtain ⟨n1, n2⟩ := nodup_pre nd
    have hz := N (a, o) (by simp)
    have N' := News.setAt N n1 n2 hs ho'
    have F' : Fr c.h₀ c.L h' m := F.change hs hz.2.1 hz.2.2
    refine kk m (c1 ++ (a, o') :: c2) h' s.toks (fun y u e => ?_) ⟨fun y hy => ?_, co.inj⟩ ⟨dom, en, F', by rw [e2]; exact N', ⟨by rw [e2]; exact ndk, B.dnd, B.ent⟩⟩
    · have mem : ∀ b ob, (b, ob) ∈ (c1 ++ (a, o) :: c2) → b ≠ a → (b, ob) ∈ (c1 ++ (a, o') :: c2) := fun b ob hb hne => by
        simp only [List.mem_append, List.mem_cons, Prod.mk.injEq] at hb ⊢
        rcases hb with hb | ⟨rfl, _⟩ | hb
        · exact .inl hb
        · exact absurd rfl hne
        · exact .inr (.inr hb)
      by_cases q : y = x
      · subst q
        simp only [VM.set, if_true] at e
        cases e
        exact ⟨hd, v, rfl, .cell hk hl (by simp) hd'⟩
      · simp only [VM.set, if_neg q] at e
        obtain ⟨hd'', v', e', r⟩ := vo y u e
        exact ⟨hd'', v', e', r.mono id fun p hp ho => mem _ _ hp fun z => ho.elim (fun h2 => q (co.inj _ _ _ (z ▸ h2) hl)) fun h2 => hz.2.1 (z.symm.trans (h2.symm))⟩
    · by_cases q : y = x
      · subst q
        exact ⟨a, o', some v, hl, by simp, hd'⟩
      · obtain ⟨b, ob, v1, k1, k2, k3⟩ := co.has y hy
        have hne : b ≠ a := fun z => q (co.inj _ _ _ (z ▸ k1) hl)
        refine ⟨b, ob, v1, k1, ?_, k3⟩
        simp only [List.mem_append, List.mem_cons, Prod.mk.injEq] at k2 ⊢
        rcases k2 with k2 | ⟨z, _⟩ | k2
        · exact .inl k2
        · exact absurd z hne
        · exact .inr (.inr k2)

/- simple statements -/
theorem WSt.ret {e pos} (h : WE G n sc e vm σ fun v σ' => P (.ret v) vm σ') : WSt G n sc (.Return (some e) pos) vm σ P :=
  fun c m cells ex s Q E ok es vo co I kk => wpAny_Return_some (h c c.fenv m (cells ++ ex) s _ E ok (ok.env es) vo.up I fun v σ' h' tk p I' => kk (.ret v) vm σ' m cells h' tk p vo co I')
theorem WSt.cont {pos} (h : P .cont vm σ) : WSt G n sc (.Continue pos) vm σ P := fun c m cells ex s Q E ok es vo co I kk => by
  show wpAny _ _ ((do standAt pos; pure Flow.cont) : Sem Flow) _ _ _
  exact wpAny_bind (wpAny_standAt (wpAny_pure (kk .cont vm σ m cells s.heap s.toks h vo co I)))
theorem WSt.brk {pos} (h : P .brk vm σ) : WSt G n sc (.Break pos) vm σ P := fun c m cells ex s Q E ok es vo co I kk => by
  show wpAny _ _ ((do standAt pos; pure Flow.brk) : Sem Flow) _ _ _
  exact wpAny_bind (wpAny_standAt (wpAny_pure (kk .brk vm σ m cells s.heap s.toks h vo co I)))
theorem WSt.if_ {t b o pos} (h : WT G n sc t vm σ fun r σ' => if r then WS G n sc b vm σ' P else WS G n sc o vm σ' P) : WSt G n sc (.If t b o pos) vm σ P :=
  fun c m cells ex s Q E ok es vo co I kk => wpAny_If (h c c.fenv m (cells ++ ex) s _ E ok (ok.env es) vo.up I fun r σ' h' tk p I' => by
    cases r with
    | true => exact p c m cells ex _ Q E ok es vo co I' fun fl'' vm'' σ'' m'' cells'' h'' tk'' p'' vo'' co'' I'' => kk fl'' vm'' σ'' m'' cells'' h'' tk'' p'' vo'' co'' I''
    | false => exact p c m cells ex _ Q E ok es vo co I' fun fl'' vm'' σ'' m'' cells'' h'' tk'' p'' vo'' co'' I'' => kk fl'' vm'' σ'' m'' cells'' h'' tk'' p'' vo'' co'' I'')
theorem WSt.expr {e pos} (h : WE G n sc e vm σ fun _ σ' => P .next vm σ') (hs : ∀ env, swapsWith e none pos.line env = pure false := by intro _; rfl) : WSt G n sc (.Expr e pos) vm σ P := by
  intro c m cells ex s Q E ok es vo co I kk
  have hi : interactive c.fenv = false := by unfold interactive; rw [ok.kind]; rfl
  rw [exec_Expr _ _ _ hi (hs _)]
  exact wpAny_bind (wpAny_standAt (wpAny_bind (h c c.fenv m (cells ++ ex) s _ E ok (ok.env es) vo.up I fun v σ' h' tk p I' => wpAny_dropValue (kk .next vm σ' m cells h' tk p vo co I'))))
theorem WSt.assign {x pos' value pos} (h : WE G n sc value vm σ fun v σ' => P .next (vm.set x v) σ') (hx : stores sc x = true) (hs : ∀ env, swapsWith value (some (.Name x pos')) pos.line env = pure false := by intro _; rfl) :
    WSt G n sc (.Assign [.Name x pos'] value pos) vm σ P :=
  fun c m cells ex s Q E ok es vo co I kk => wpAny_Assign_Name (h c c.fenv m (cells ++ ex) s _ E ok (ok.env es) vo.up I fun v σ' h' tk p I' =>
    store_W ok es hx vo co I' fun m' cells' h'' tk' vo' co' I'' => kk .next _ σ' m' cells' h'' tk' p vo' co' I'') (hs _)
theorem WSt.setAttr {o attr pos' value pos} (h : WE G n sc value vm σ fun v σ₁ => WE G n sc o vm σ₁ fun ov σ₂ => ∃ a C fs, ov = .ref a ∧ σ₂ a = some (.inst C fs) ∧ storable G.K C attr = true ∧ (setF attr v fs).length ≤ 1000 ∧ P .next vm (upd σ₂ a (.inst C (setF attr v fs))))
    (hs : ∀ env, swapsWith value (some (.Attribute o attr pos')) pos.line env = pure false := by intro _; rfl) : WSt G n sc (.Assign [.Attribute o attr pos'] value pos) vm σ P :=
  fun c m cells ex s Q E ok es vo co I kk => plainObj_wpAny_Assign_Attribute (h c c.fenv m (cells ++ ex) s _ E ok (ok.env es) vo.up I fun v σ₁ h₁ tk₁ p₁ I₁ => p₁ c c.fenv m (cells ++ ex) _ _ E ok (ok.env es) vo.up I₁ fun ov σ₂ h₂ tk₂ p₂ I₂ => by
    obtain ⟨a, C, fs, e, ha, hst, hl, p⟩ := p₂
    rw [er_is_ref e]
    exact WUn.setAttr (P := fun σ' => P .next vm σ') ha hst hl p c m (cells ++ ex) _ _ E ok I₂ fun σ₃ h₃ tk₃ p₃ I₃ => kk .next vm σ₃ m cells h₃ tk₃ p₃ vo co I₃) (hs _)
theorem inplace_add {M : Model} {A : Around} {E : Value → Shared → Prop} {s : Shared} {Q : Value → Shared → Prop} {i j : Int} {t u : Tok} {prog : Program} {w : World} (h : Q (.int (i + j) s.toks) { s with toks := s.toks + 1 }) : wpAny (model prog w) A (inplaceOp .Add (.int i t) (.int j u)) Q E s := PySem.P.iadd_int h
/-- o.attr += an int -/
theorem WSt.augAdd {o attr tpos value pos} (h : WE G n sc o vm σ fun ov σ₁ => ∃ a C fs i, ov = .ref a ∧ σ₁ a = some (.inst C fs) ∧ readable G.K C attr = true ∧ getF attr fs = some (.int i 0) ∧
      WE G n sc value vm σ₁ fun v σ₂ => ∃ j t fs, v = .int j t ∧ σ₂ a = some (.inst C fs) ∧ storable G.K C attr = true ∧ (setF attr (.int (i + j) 0) fs).length ≤ 1000 ∧ P .next vm (upd σ₂ a (.inst C (setF attr (.int (i + j) 0) fs)))) :
    WSt G n sc (.AugAssign (.Attribute o attr tpos) .Add value pos) vm σ P :=
  fun c m cells ex s Q E ok es vo co I kk => wpAny_AugAssign_AttributeAny (h c c.fenv m (cells ++ ex) s _ E ok (ok.env es) vo.up I fun ov σ₁ h₁ tk₁ p₁ I₁ => by
    obtain ⟨a, C, fs, i, e, ha, hr, hg, p⟩ := p₁
    rw [er_is_ref e]
    exact WOp.getAttr (P := fun v σ' => v = .int i 0 ∧ σ' = σ₁) ha hr hg rfl ⟨rfl, rfl⟩ c m (cells ++ ex) _ _ E ok I₁ fun old σ₂ h₂ tk₂ p₂ I₂ => by
      obtain ⟨e1, rfl⟩ := p₂
      obtain ⟨t1, rfl⟩ := er_is_int e1
      exact p c c.fenv m (cells ++ ex) _ _ E ok (ok.env es) vo.up I₂ fun v σ₃ h₃ tk₃ p₃ I₃ => by
        obtain ⟨j, t, fs', e2, ha', hst, hl, p'⟩ := p₃
        obtain ⟨t2, rfl⟩ := er_is_int e2
        exact inplace_add (M := model G.prog G.w) (WUn.setAttr (v := .int (i + j) _) (P := fun σ' => P .next vm σ') ha' hst hl p' c m (cells ++ ex) _ _ E ok I₃ fun σ₄ h₄ tk₄ p₄ I₄ => kk .next vm σ₄ m cells h₄ tk₄ p₄ vo co I₄))
end
-- MIter
section
variable {G : GX} {c : Cx} {m : Str → Option Value} {ex e1 e2 : Led} {σ : AH} {h h' : Heap} {I : Addr} {o o' : Obj}
theorem Inv.exSet (X : Inv G c m (e1 ++ (I, o) :: e2) σ h) (hs : Heap.SameBut I h h') (ho : h'.get? I = some o') : Inv G c m (e1 ++ (I, o') :: e2) σ h' := by
  obtain ⟨dom, en, F, N, B⟩ := X
  have nd := B.nd
  have q1 : dom.flatMap en ++ (e1 ++ (I, o) :: e2) = (dom.flatMap en ++ e1) ++ (I, o) :: e2 := by simp
  have q2 : dom.flatMap en ++ (e1 ++ (I, o') :: e2) = (dom.flatMap en ++ e1) ++ (I, o') :: e2 := by simp
  have ndk : (keys ((dom.flatMap en ++ e1) ++ (I, o') :: e2)).Nodup := by rw [q1] at nd; simpa [keys] using nd
  rw [q1] at N nd
  obtain ⟨n1, n2⟩ := nodup_pre nd
  have hz := N (I, o) (by simp)
  exact ⟨dom, en, F.change hs hz.2.1 hz.2.2, by rw [q2]; exact News.setAt N n1 n2 hs ho, ⟨by rw [q2]; exact ndk, B.dnd, B.ent⟩⟩
theorem Inv.exDrop (X : Inv G c m ((I, o) :: ex) σ h) (hs : Heap.ExtBut I h h') : Inv G c m ex σ h' := by
  obtain ⟨dom, en, F, N, B⟩ := X
  have nd := B.nd
  obtain ⟨n1, n2⟩ := nodup_pre (pre := dom.flatMap en) nd
  have hz := N (I, o) (by simp)
  obtain ⟨oL, a1, a2, hL, a3⟩ := F.ns
  refine ⟨dom, en, ⟨⟨oL, a1, a2, hs _ _ (Ne.symm hz.2.1) hL, a3⟩, fun b ob e => hs b ob (fun q => ?_) (F.keep b ob e), F.above⟩, fun p hp => ?_, ⟨?_, B.dnd, B.ent⟩⟩
  · have e' : c.h₀.get? I = some ob := q ▸ e
    rw [hz.2.2] at e'; cases e'
  · have hp' : p ∈ dom.flatMap en ++ (I, o) :: ex := by
      rcases List.mem_append.mp hp with q | q
      · exact List.mem_append_left _ q
      · exact List.mem_append_right _ (.tail _ q)
    have := N p hp'
    refine ⟨hs _ _ ?_ this.1, this.2⟩
    rcases List.mem_append.mp hp with q | q
    · exact n1 p q
    · exact n2 p q
  · refine nd.sublist ((List.Sublist.append (List.Sublist.refl _) (List.sublist_cons_self _ _)).map _)
theorem Inv.exPush (X : Inv G c m ex σ h) (hf : o.isFreed = false) : Inv G c m ((h.objs.size, o) :: ex) σ (h.push o) := by
  obtain ⟨dom, en, F, N, B⟩ := X
  refine ⟨dom, en, F.push _, fun p hp => ?_, ⟨?_, B.dnd, B.ent⟩⟩
  · rcases List.mem_append.mp hp with q | q
    · exact (N.push F o hf) p (.tail _ (List.mem_append_left _ q))
    · rcases List.mem_cons.mp q with rfl | q
      · exact (N.push F o hf) _ (.head _)
      · exact (N.push F o hf) p (.tail _ (List.mem_append_right _ q))
  · have nd := B.nd
    have hlt : ∀ p ∈ dom.flatMap en ++ ex, p.1 ≠ h.objs.size := fun p hp => Nat.ne_of_lt (Heap.lt_size (N p hp).1)
    have hp : (dom.flatMap en ++ (h.objs.size, o) :: ex).Perm ((h.objs.size, o) :: (dom.flatMap en ++ ex)) := List.perm_middle
    refine (List.Perm.nodup_iff (hp.map _)).mpr ?_
    refine List.nodup_cons.mpr ⟨fun hm => ?_, nd⟩
    obtain ⟨p, hp, e⟩ := List.mem_map.mp hm
    exact hlt p hp e
theorem Inv.exGet (X : Inv G c m ex σ h) (hm : (I, o) ∈ ex) : h.get? I = some o := (X.exN _ hm).1
end

/-- an iterator at work: what it is to yield, what it asks of the state, its own objects -/
structure IsIter (G : GX) (n : Nat) (I : Addr) (xs : List Value) (ok : AH → Prop) (it : Nat → Led → Prop) : Prop where
  self : ∀ (c : Cx) (m ex) (σ : AH) (s : Shared) (Q : Value → Shared → Prop) (E : Value → Shared → Prop) (k : Nat) (l : Led), it k l → Inv G c m (l ++ ex) σ s.heap → Q (.ref I) s → wpAny (model G.prog G.w) c.A (pyIter (.ref I)) Q E s
  item : ∀ (c : Cx) (m ex) (σ : AH) (s : Shared) (Q : Option Value → Shared → Prop) (E : Value → Shared → Prop) (k : Nat) (l : Led) (x : Value), c.Ok G n → ok σ → it k l → xs[k]? = some x → Inv G c m (l ++ ex) σ s.heap →
    (∀ v l' h' tk, er v = x → it (k + 1) l' → Inv G c m (l' ++ ex) σ h' → Q (some v) { s with heap := h', toks := tk }) → wpAny (model G.prog G.w) c.A (pyNext (.ref I)) Q E s
  done : ∀ (c : Cx) (m ex) (σ : AH) (s : Shared) (Q : Option Value → Shared → Prop) (E : Value → Shared → Prop) (l : Led), c.Ok G n → ok σ → it xs.length l → Inv G c m (l ++ ex) σ s.heap →
    (∀ h' tk, Inv G c m ex σ h' → Q none { s with heap := h', toks := tk }) → wpAny (model G.prog G.w) c.A (pyNext (.ref I)) Q E s

def WIt (G : GX) (n : Nat) (sc : Scope) (e : Expr) (vm : VM) (σ : AH) (P : List Value → (AH → Prop) → AH → Prop) : Prop :=
  ∀ (c : Cx) (env : Env) (m : Str → Option Value) (ex : Led) (s : Shared) (Q E : Value → Shared → Prop), c.Ok G n → EnvOk sc env → VmOk G env c.L m ex vm → Inv G c m ex σ s.heap →
    (∀ I l xs ok it σ' h' tk, IsIter G n I xs ok it → it 0 l → Inv G c m (l ++ ex) σ' h' → P xs ok σ' → Q (.ref I) { s with heap := h', toks := tk }) →
    wpAny (model G.prog G.w) c.A (eval e env) (fun x s₁ => wpAny (model G.prog G.w) c.A (pyIter x) Q E s₁) E s

abbrev litObj (l : Addr) (i : Nat) : Obj := { cls := .type "list_iterator", data := .fields #[.ref l, .int i 0] }
/-- an iterator object of a kind -/
def ItObj (T : String) (fs : Array Value) (I : Addr) (l : Led) : Prop := ∃ o, l = [(I, o)] ∧ o.cls = .type T ∧ o.data = .fields fs

section
variable {G : GX} {n : Nat} {sc : Scope} {σ : AH} {vm : VM} {a : Addr}

theorem isIter_list {I : Addr} {xs : List Value} : IsIter G n I xs (fun σ => σ a = some (.list xs)) (fun k => ItObj "list_iterator" #[.ref a, .int k 0] I) where
  self := by
    rintro c m ex σ s Q E k l ⟨o, rfl, hc, hd⟩ X q
    exact wpAny_pyIter_listiter ⟨o, X.exGet (I := I) (o := o) (by simp), hc, hd⟩ q
  item := by
    rintro c m ex σ s Q E k l x ok ha ⟨o, rfl, hc, hd⟩ hx X kk
    obtain ⟨vs, q, hv, e⟩ := X.list ha
    obtain ⟨v, h3, h4⟩ := map_get e hx
    have hI := X.exGet (I := I) (o := o) (by simp)
    refine wpAny_pyNext_list_item ⟨o, hI, hc, hd⟩ (isList_of hv) h3 fun h' hit hs => ?_
    obtain ⟨o', ho', hc', hd'⟩ := hit
    exact kk v [(I, o')] h' s.toks h4 ⟨o', rfl, hc', hd'⟩ (X.exSet (e1 := []) hs ho')
  done := by
    rintro c m ex σ s Q E l ok ha ⟨o, rfl, hc, hd⟩ X kk
    obtain ⟨vs, q, hv, e⟩ := X.list ha
    have hI := X.exGet (I := I) (o := o) (by simp)
    refine wpAny_pyNext_list_end ok.hh ⟨o, hI, hc, hd⟩ (isList_of hv) (by rw [← map_size e]; simp) fun h' hs => ?_
    exact kk h' s.toks (X.exDrop hs)
theorem WIt.list {e P} (h : WE G n sc e vm σ fun v σ₁ => ∃ a xs, v = .ref a ∧ σ₁ a = some (.list xs) ∧ P xs (fun σ => σ a = some (.list xs)) σ₁) : WIt G n sc e vm σ P := by
  intro c env m ex s Q E ok eo vo X kk
  refine h c env m ex s _ E ok eo vo X fun v σ₁ h₁ tk₁ p X₁ => ?_
  obtain ⟨a, xs, e, ha, p⟩ := p
  rw [er_is_ref e]
  obtain ⟨vs, q, hv, e'⟩ := X₁.list ha
  exact wpAny_pyIter_list (isList_of hv) (kk _ _ xs _ _ _ _ tk₁ isIter_list ⟨_, rfl, rfl, rfl⟩ (X₁.exPush rfl) p)

theorem isIter_tup {I : Addr} {xs : List Value} {ok : AH → Prop} (hk : ∀ c m ex σ h, Cx.Ok G c n → ok σ → Inv G c m ex σ h → ∃ vs : Array Value, h.IsTuple a vs ∧ vs.toList.map er = xs) :
    IsIter G n I xs ok (fun k => ItObj "tuple_iterator" #[.ref a, .int k 0] I) where
  self := by
    rintro c m ex σ s Q E k l ⟨o, rfl, hc, hd⟩ X q
    exact wpAny_pyIter_tupleiter ⟨o, X.exGet (I := I) (o := o) (by simp), hc, hd⟩ q
  item := by
    rintro c m ex σ s Q E k l x ok ha ⟨o, rfl, hc, hd⟩ hx X kk
    obtain ⟨vs, hv, e⟩ := hk _ _ _ _ _ ok ha X
    obtain ⟨v, h3, h4⟩ := map_get e hx
    have hI := X.exGet (I := I) (o := o) (by simp)
    refine wpAny_pyNext_tuple_item ⟨o, hI, hc, hd⟩ hv h3 fun h' hit hs => ?_
    obtain ⟨o', ho', hc', hd'⟩ := hit
    exact kk v [(I, o')] h' s.toks h4 ⟨o', rfl, hc', hd'⟩ (X.exSet (e1 := []) hs ho')
  done := by
    rintro c m ex σ s Q E l ok ha ⟨o, rfl, hc, hd⟩ X kk
    obtain ⟨vs, hv, e⟩ := hk _ _ _ _ _ ok ha X
    have hI := X.exGet (I := I) (o := o) (by simp)
    refine wpAny_pyNext_tuple_end ok.hh ⟨o, hI, hc, hd⟩ hv (by rw [← map_size e]; simp) fun h' hs => ?_
    exact kk h' s.toks (X.exDrop hs)
theorem WIt.tup {e P} (h : WE G n sc e vm σ fun v σ₁ => ∃ a xs, v = .ref a ∧ ((σ₁ a = some (.tup xs) ∧ P xs (fun σ => σ a = some (.tup xs)) σ₁) ∨ (KTup G a xs ∧ P xs (fun _ => True) σ₁))) : WIt G n sc e vm σ P := by
  intro c env m ex s Q E ok eo vo X kk
  refine h c env m ex s _ E ok eo vo X fun v σ₁ h₁ tk₁ p X₁ => ?_
  obtain ⟨a, xs, e, p⟩ := p
  rw [er_is_ref e]
  rcases p with ⟨ha, p⟩ | ⟨ha, p⟩
  · obtain ⟨vs, q, hv, e'⟩ := X₁.tup ha
    refine wpAny_pyIter_tuple (isTup_of hv) (kk _ _ xs _ _ _ _ tk₁ (isIter_tup fun c m ex σ h ok ho X => ?_) ⟨_, rfl, rfl, rfl⟩ (X₁.exPush rfl) p)
    obtain ⟨vs, q, hv, e'⟩ := X.tup ho
    exact ⟨vs, isTup_of hv, e'⟩
  · obtain ⟨vs, hv, e'⟩ := ha _ (X₁.KIn ok)
    refine wpAny_pyIter_tuple hv (kk _ _ xs _ _ _ _ tk₁ (isIter_tup fun c m ex σ h ok ho X => ?_) ⟨_, rfl, rfl, rfl⟩ (X₁.exPush rfl) p)
    obtain ⟨vs, hv, e'⟩ := ha _ (X.KIn ok)
    exact ⟨vs, hv, e'⟩

def rangeL (a : Int) (k : Nat) : List Value := (List.range k).map fun (i : Nat) => Value.int (a + (i : Int)) 0
theorem rangeL_length (a : Int) (k : Nat) : (rangeL a k).length = k := by simp [rangeL]
theorem isIter_range {I : Addr} {a : Int} {k : Nat} : IsIter G n I (rangeL a k) (fun _ => True) (fun j l => ∃ o, l = [(I, o)] ∧ o = { cls := .type "range_iterator", dict := none, data := .fields #[rawInt (a + j), rawInt ((k : Int) - j), rawInt 1], slots := #[] }) where
  self := by
    rintro c m ex σ s Q E k l ⟨o, rfl, rfl⟩ X q
    exact wpAny_pyIter_rangeiter (X.exGet (I := I) (List.mem_cons_self ..)) q
  item := by
    rintro c m ex σ s Q E j l x ok ha ⟨o, rfl, rfl⟩ hx X kk
    have hI := X.exGet (I := I) (List.mem_cons_self ..)
    have hlt : j < k := by have := (List.getElem?_eq_some_iff.mp hx).1; rwa [rangeL_length] at this
    have hxv : x = .int (a + j) 0 := by simp [rangeL, hlt] at hx; exact hx.symm
    refine wpAny_pyNext_range_item hI (by omega) fun h' hit hs => ?_
    refine kk _ [(I, _)] h' _ (by rw [hxv]; rfl) ⟨_, rfl, rfl⟩ (X.exSet (e1 := []) hs ?_)
    have e1 : a + ((j + 1 : Nat) : Int) = a + j + 1 := by omega
    have e2 : (k : Int) - ((j + 1 : Nat) : Int) = (k : Int) - j - 1 := by omega
    rw [e1, e2]; exact hit
  done := by
    rintro c m ex σ s Q E l ok ha ⟨o, rfl, rfl⟩ X kk
    have hI := X.exGet (I := I) (List.mem_cons_self ..)
    rw [rangeL_length] at hI
    refine wpAny_pyNext_range_end ok.hh hI (by omega) fun h' hs => ?_
    exact kk h' s.toks (X.exDrop hs)

theorem callWith_run {P : List Value → AH → Prop} {c : Cx} {env : Env} {m ex} {pos : Pos} {E : Value → Shared → Prop} {f : Value} {first : List Value} {es : List Expr} {s : Shared} {Q : Value → Shared → Prop} (ok : c.Ok G n) (eo : EnvOk sc env) (vo : VmOk G env c.L m ex vm) (hn : noStar es = true) (hf : Callee G f)
    (h : WArgs G n sc vm es σ P) (X : Inv G c m ex σ s.heap)
    (kk : ∀ vs σ' h' tk, P (vs.map er) σ' → Inv G c m ex σ' h' → wpAny (model G.prog G.w) c.A (call f (first ++ vs)) Q E { s with heap := h', toks := tk }) : wpAny (model G.prog G.w) c.A (callWith pos f first (backTo pos (starEach es env)) []) Q E s := by
  refine callWith_of (P := fun hp => G.K.In hp) (by rw [noStar_any hn]; rfl) (fun hp X => hf.keeper _ hp X) ?_
  cases es with
  | nil => exact evalArgs_nil3 ⟨X.KIn ok, kk [] σ s.heap s.toks h X⟩
  | cons e r =>
    have hn' := hn
    rw [starEach_of hn]
    refine evalArgs_plain ?_
    have z := WArgs.run (pos := pos) (E := E) (s := s) (Q := fun vs s' => G.K.In s'.heap ∧ wpAny (model G.prog G.w) c.A (call f (first ++ vs) []) Q E s') ok eo vo hn' h X
      (fun vs σ' h' tk p I' => ⟨I'.KIn ok, kk vs σ' h' tk p I'⟩)
    rw [starEach_of hn] at z
    exact z

theorem WIt.range2 {func e₁ e₂ pos P} (h : WE G n sc func vm σ fun f σ₁ => f = .type "range" ∧ WArgs G n sc vm [e₁, e₂] σ₁ fun vs σ₂ => ∃ (a b : Int) (t u : Tok) (k : Nat), vs = [.int a t, .int b u] ∧ b - a = k ∧ a.natAbs ≤ 100000 ∧ k ≤ 100000 ∧ P (rangeL a k) (fun _ => True) σ₂) (hn : noStar [e₁, e₂] = true := by rfl)
    (he : ∀ env, eval (.Call func [e₁, e₂] [] pos) env = (do callWith pos (← eval func env) [] (backTo pos (starEach [e₁, e₂] env)) (backToKw pos (keywordEach [] env))) := by intro _; rfl) : WIt G n sc (.Call func [e₁, e₂] [] pos) vm σ P := by
  intro c env m ex s Q E ok eo vo X kk
  refine Call_ (h c env m ex s _ E ok eo vo X fun f σ₁ h₁ tk₁ p₁ I₁ => ?_) (he env)
  rw [er_is_type p₁.1]
  refine callWith_run ok eo vo hn (f := .type "range") trivial (first := []) p₁.2 I₁ fun vs σ₂ h₂ tk₂ p₂ I₂ => ?_
  obtain ⟨a, b, t, u, k, e, hk, ha, hb, p⟩ := p₂
  obtain ⟨x, y, rfl, e1, e2⟩ := args2 e
  obtain ⟨t1, rfl⟩ := er_is_int e1
  obtain ⟨t2, rfl⟩ := er_is_int e2
  refine call_range_2 ?_
  refine wpAny_pyIter_range (IsRange.new ..) (small_one (by omega) (by omega) (by omega) (by omega)) ?_
  have X3 := (I₂.keeps (h' := h₂.push { cls := .type "range", data := .fields #[.int a t1, .int b t2, .int 1 tk₂] }) fun b o e => Heap.get?_push_of_some _ e)
  have hsz : Builtin.Range.rangeSize a b 1 = (k : Int) := by rw [rangeSize_one]; split <;> omega
  rw [hsz]
  refine kk _ _ (rangeL a k) _ _ _ _ _ isIter_range ⟨_, rfl, ?_⟩ (X3.exPush rfl) p
  simp
theorem WIt.range1 {func e₁ pos P} (h : WE G n sc func vm σ fun f σ₁ => f = .type "range" ∧ WArgs G n sc vm [e₁] σ₁ fun vs σ₂ => ∃ (b : Int) (u : Tok) (k : Nat), vs = [.int b u] ∧ b = k ∧ k ≤ 100000 ∧ P (rangeL 0 k) (fun _ => True) σ₂) (hn : noStar [e₁] = true := by rfl)
    (he : ∀ env, eval (.Call func [e₁] [] pos) env = (do callWith pos (← eval func env) [] (backTo pos (starEach [e₁] env)) (backToKw pos (keywordEach [] env))) := by intro _; rfl) : WIt G n sc (.Call func [e₁] [] pos) vm σ P := by
  intro c env m ex s Q E ok eo vo X kk
  refine Call_ (h c env m ex s _ E ok eo vo X fun f σ₁ h₁ tk₁ p₁ I₁ => ?_) (he env)
  rw [er_is_type p₁.1]
  refine callWith_run ok eo vo hn (f := .type "range") trivial (first := []) p₁.2 I₁ fun vs σ₂ h₂ tk₂ p₂ I₂ => ?_
  obtain ⟨b, u, k, e, hk, hb, p⟩ := p₂
  obtain ⟨x, rfl, e1⟩ := args1 e
  obtain ⟨t1, rfl⟩ := er_is_int e1
  subst hk
  refine call_range_1 ?_
  refine wpAny_pyIter_range (IsRange.new ..) (small_one (by omega) (by omega) (by omega) (by omega)) ?_
  have X3 := (I₂.keeps (h' := h₂.push { cls := .type "range", data := .fields #[.int 0 tk₂, .int (k : Int) t1, .int 1 (tk₂ + 1)] }) fun b o e => Heap.get?_push_of_some _ e)
  have hsz : Builtin.Range.rangeSize 0 (k : Int) 1 = (k : Int) := by rw [rangeSize_one]; split <;> omega
  rw [hsz]
  refine kk _ _ (rangeL 0 k) _ _ _ _ _ isIter_range ⟨_, rfl, ?_⟩ (X3.exPush rfl) p
  simp

theorem isIter_rev {I : Addr} {xs : List Value} : IsIter G n I xs.reverse (fun σ => σ a = some (.list xs)) (fun k l => k ≤ xs.length ∧ ItObj "list_reverseiterator" #[.ref a, rawInt ((xs.length : Int) - 1 - k)] I l) where
  self := by
    rintro c m ex σ s Q E k l ⟨hle, o, rfl, hc, hd⟩ X q
    exact wpAny_pyIter_revIter ⟨o, X.exGet (I := I) (o := o) (by simp), hc, hd⟩ q
  item := by
    rintro c m ex σ s Q E k l x ok ha ⟨hle, o, rfl, hc, hd⟩ hx X kk
    obtain ⟨vs, q, hv, e⟩ := X.list ha
    have hlt : k < xs.length := by have := (List.getElem?_eq_some_iff.mp hx).1; simpa using this
    have hx' : xs[xs.length - 1 - k]? = some x := by rw [List.getElem?_reverse hlt] at hx; exact hx
    obtain ⟨v, h3, h4⟩ := map_get e hx'
    have hI := X.exGet (I := I) (o := o) (by simp)
    have e1 : (xs.length : Int) - 1 - k = ((xs.length - 1 - k : Nat) : Int) := by omega
    rw [e1] at hd
    refine wpAny_pyNext_rev_item ⟨o, hI, hc, hd⟩ (isList_of hv) h3 fun h' hit hs => ?_
    obtain ⟨o', ho', hc', hd'⟩ := hit
    have e2 : ((xs.length - 1 - k : Nat) : Int) - 1 = (xs.length : Int) - 1 - ((k + 1 : Nat) : Int) := by omega
    rw [e2] at hd'
    exact kk v [(I, o')] h' s.toks h4 ⟨hlt, o', rfl, hc', hd'⟩ (X.exSet (e1 := []) hs ho')
  done := by
    rintro c m ex σ s Q E l ok ha ⟨hle, o, rfl, hc, hd⟩ X kk
    have hI := X.exGet (I := I) (o := o) (by simp)
    have e1 : (xs.length : Int) - 1 - (xs.reverse.length : Int) = -1 := by simp; omega
    rw [e1] at hd
    refine wpAny_pyNext_rev_end ok.hh ⟨o, hI, hc, hd⟩ fun h' hs => ?_
    exact kk h' s.toks (X.exDrop hs)
theorem WIt.rev {func e₁ pos P} (h : WE G n sc func vm σ fun f σ₁ => f = .type "reversed" ∧ WArgs G n sc vm [e₁] σ₁ fun vs σ₂ => ∃ a xs, vs = [.ref a] ∧ σ₂ a = some (.list xs) ∧ P xs.reverse (fun σ => σ a = some (.list xs)) σ₂) (hn : noStar [e₁] = true := by rfl)
    (he : ∀ env, eval (.Call func [e₁] [] pos) env = (do callWith pos (← eval func env) [] (backTo pos (starEach [e₁] env)) (backToKw pos (keywordEach [] env))) := by intro _; rfl) : WIt G n sc (.Call func [e₁] [] pos) vm σ P := by
  intro c env m ex s Q E ok eo vo X kk
  refine Call_ (h c env m ex s _ E ok eo vo X fun f σ₁ h₁ tk₁ p₁ I₁ => ?_) (he env)
  rw [er_is_type p₁.1]
  refine callWith_run ok eo vo hn (f := .type "reversed") trivial (first := []) p₁.2 I₁ fun vs σ₂ h₂ tk₂ p₂ I₂ => ?_
  obtain ⟨a, xs, e, ha, p⟩ := p₂
  obtain ⟨x, rfl, e1⟩ := args1 e
  rw [er_is_ref e1]
  obtain ⟨vs, q, hv, e'⟩ := I₂.list ha
  refine call_reversed_list (isList_of hv) ?_
  have hz := map_size e'
  refine wpAny_pyIter_revIter ⟨_, Heap.get?_push_size _ rfl, rfl, rfl⟩ (kk _ _ xs.reverse _ _ _ _ _ isIter_rev ⟨Nat.zero_le _, _, rfl, rfl, ?_⟩ (I₂.exPush rfl) p)
  rw [hz]; simp [revObj]

/-- the letters of a written text -/
def lettersL (x : Str) : List Value := x.cps.toList.map fun c => .str ⟨#[c]⟩ 0
theorem isIter_str {I : Addr} {x : Str} {t : Tok} : IsIter G n I (lettersL x) (fun _ => True) (fun k => ItObj "str_ascii_iterator" #[.str x t, .int k 0] I) where
  self := by
    rintro c m ex σ s Q E k l ⟨o, rfl, hc, hd⟩ X q
    exact wpAny_pyIter_striter_ascii ⟨o, X.exGet (I := I) (o := o) (by simp), hc, hd⟩ q
  item := by
    rintro c m ex σ s Q E k l y ok ha ⟨o, rfl, hc, hd⟩ hx X kk
    have hI := X.exGet (I := I) (o := o) (by simp)
    obtain ⟨d, hd1, hd2⟩ : ∃ d, x.cps[k]? = some d ∧ Value.str ⟨#[d]⟩ 0 = y := by
      unfold lettersL at hx
      rw [List.getElem?_map] at hx
      cases q : x.cps.toList[k]? with
      | none => rw [q] at hx; cases hx
      | some d => rw [q] at hx; exact ⟨d, by simpa using q, Option.some.inj hx⟩
    refine wpAny_pyNext_ascii_item ⟨o, hI, hc, hd⟩ hd1 fun h' hit hs => ?_
    obtain ⟨o', ho', hc', hd'⟩ := hit
    exact kk _ [(I, o')] h' _ (by rw [← hd2]; rfl) ⟨o', rfl, hc', hd'⟩ (X.exSet (e1 := []) hs ho')
  done := by
    rintro c m ex σ s Q E l ok ha ⟨o, rfl, hc, hd⟩ X kk
    have hI := X.exGet (I := I) (o := o) (by simp)
    refine wpAny_pyNext_ascii_end ok.hh ⟨o, hI, hc, hd⟩ (by simp [lettersL]) fun h' hs => ?_
    exact kk h' s.toks (X.exDrop hs)
theorem WIt.letters {x k pos P} (ha : x.cps.all (· < 128) = true) (h : P (lettersL x) (fun _ => True) σ) : WIt G n sc (.Constant (.str x) k pos) vm σ P := by
  intro c env m ex s Q E ok eo vo X kk
  refine Constant_str (wpAny_pyIter_ascii ha ?_)
  exact kk _ _ (lettersL x) _ _ _ _ _ isIter_str ⟨_, rfl, rfl, rfl⟩ (X.exPush rfl) h
end
-- MLoop
section
variable {G : GX} {n : Nat} {sc : Scope} {σ : AH} {vm : VM} {P : Flow → VM → AH → Prop}

theorem len_fits {K : Type} {kv kvs : List (K × Value)} (hkv : kv.map (fun p => (p.1, er p.2)) = kvs) (hz : kvs.length ≤ 100000) : kv.length ≤ sizeLine := by
  have : kv.length = kvs.length := by rw [← hkv]; simp
  rw [this]; exact sl_le (by omega)
/-- d[k] = v -/
theorem setItemI_W {c : Cx} {m ex} {s : Shared} {a : Addr} {kvs k} {v key : Value} {Q : Unit → Shared → Prop} {E} (X : Inv G c m ex σ s.heap) (ha : σ a = some (.idict kvs)) (hz : kvs.length ≤ 100000) (hk : er key = .int k 0)
    (kk : ∀ h' tk, Inv G c m ex (upd σ a (.idict (stored kvs k (er v)))) h' → Q () { s with heap := h', toks := tk }) : wpAny (model G.prog G.w) c.A (setItem (.ref a) key v) Q E s := by
  obtain ⟨t, rfl⟩ := er_is_int hk
  obtain ⟨o, pre, post, he, F, N, nd, put⟩ := X.focus1 ha (fun _ ⟨o, kv, h, _⟩ => ⟨_, h⟩)
  obtain ⟨o', kv, he, hd, hkv, lo⟩ := he
  cases he
  obtain ⟨n1, n2⟩ := nodup_pre nd
  have z := N (a, o) (by simp)
  refine wpAny_setItem_pairs (knd := intKind G.prog G.w) (k := k) (by simp [intKind, Value.isInt]) (Heap.dictOf_iff.mpr ⟨o, z.1, hd⟩) (fun h' hd' hs => ?_) (len_fits hkv hz)
  obtain ⟨o', ho', hdo⟩ := Heap.dictOf_iff.mp hd'
  exact kk h' _ (put _ o' h' ⟨o', _, rfl, hdo, by rw [stored_map, hkv], lo⟩ (F.change hs z.2.1 z.2.2) (News.setAt N n1 n2 hs ho'))
theorem setItemS_W {c : Cx} {m ex} {s : Shared} {a : Addr} {kvs k} {v key : Value} {Q : Unit → Shared → Prop} {E} (X : Inv G c m ex σ s.heap) (ha : σ a = some (.sdict kvs)) (hz : kvs.length ≤ 100000) (hk : er key = .str k 0)
    (kk : ∀ h' tk, Inv G c m ex (upd σ a (.sdict (stored kvs k (er v)))) h' → Q () { s with heap := h', toks := tk }) : wpAny (model G.prog G.w) c.A (setItem (.ref a) key v) Q E s := by
  obtain ⟨t, rfl⟩ := er_is_str hk
  obtain ⟨o, pre, post, he, F, N, nd, put⟩ := X.focus1 ha (fun _ ⟨o, kv, h, _⟩ => ⟨_, h⟩)
  obtain ⟨o', kv, he, hd, hkv, lo⟩ := he
  cases he
  obtain ⟨n1, n2⟩ := nodup_pre nd
  have z := N (a, o) (by simp)
  refine wpAny_setItem_pairs (knd := strKind G.prog G.w) (k := k) (strKind_is G.prog G.w _ _) (Heap.dictOf_iff.mpr ⟨o, z.1, hd⟩) (fun h' hd' hs => ?_) (len_fits hkv hz)
  obtain ⟨o', ho', hdo⟩ := Heap.dictOf_iff.mp hd'
  exact kk h' _ (put _ o' h' ⟨o', _, rfl, hdo, by rw [stored_map, hkv], lo⟩ (F.change hs z.2.1 z.2.2) (News.setAt N n1 n2 hs ho'))

theorem WSt.setItem {o i pos' value pos} (h : WE G n sc value vm σ fun v σ₁ => WE G n sc o vm σ₁ fun ov σ₂ => WE G n sc i vm σ₂ fun iv σ₃ => ∃ a, ov = .ref a ∧
      ((∃ kvs k, iv = .int k 0 ∧ σ₃ a = some (.idict kvs) ∧ kvs.length ≤ 100000 ∧ P .next vm (upd σ₃ a (.idict (stored kvs k v)))) ∨
       (∃ kvs k, iv = .str k 0 ∧ σ₃ a = some (.sdict kvs) ∧ kvs.length ≤ 100000 ∧ P .next vm (upd σ₃ a (.sdict (stored kvs k v))))))
    (hs : ∀ env, swapsWith value (some (.Subscript o i pos')) pos.line env = pure false := by intro _; rfl) : WSt G n sc (.Assign [.Subscript o i pos'] value pos) vm σ P :=
  fun c m cells ex s Q E ok es vo co X kk => wpAny_Assign_Subscript (h c c.fenv m (cells ++ ex) s _ E ok (ok.env es) vo.up X fun v σ₁ h₁ tk₁ p₁ I₁ => p₁ c c.fenv m (cells ++ ex) _ _ E ok (ok.env es) vo.up I₁ fun ov σ₂ h₂ tk₂ p₂ I₂ =>
    p₂ c c.fenv m (cells ++ ex) _ _ E ok (ok.env es) vo.up I₂ fun iv σ₃ h₃ tk₃ p₃ I₃ => by
      obtain ⟨a, e, p⟩ := p₃
      rw [er_is_ref e]
      rcases p with ⟨kvs, k, e2, ha, hz, p⟩ | ⟨kvs, k, e2, ha, hz, p⟩
      · exact setItemI_W I₃ ha hz e2 fun h' tk X' => kk .next vm _ m cells h' tk p vo co X'
      · exact setItemS_W I₃ ha hz e2 fun h' tk X' => kk .next vm _ m cells h' tk p vo co X') (hs _)

/- a, b = v -/
def VM.setAll (vm : VM) : List Str → List Value → VM
  | x :: xs, v :: vs => VM.setAll (vm.set x v) xs vs
  | _, _ => vm
def namesE : List (Str × Pos) → List Expr := fun l => l.map fun p => .Name p.1 p.2
theorem storeAll_W {c : Cx} {ex} {E : Value → Shared → Prop} (ok : c.Ok G n) (es : c.fenv.scope = sc) : ∀ {xs : List (Str × Pos)} {vs : List Value} {vm : VM} {m cells} {s : Shared} {Q : Unit → Shared → Prop}, xs.all (fun p => stores sc p.1) = true →
    VmOk G c.fenv c.L m cells vm → CellsOk c.fenv cells → Inv G c m (cells ++ ex) σ s.heap →
    (∀ m' cells' h' tk, VmOk G c.fenv c.L m' cells' (vm.setAll (xs.map (·.1)) (vs.map er)) → CellsOk c.fenv cells' → Inv G c m' (cells' ++ ex) σ h' → Q () { s with heap := h', toks := tk }) →
    wpAny (model G.prog G.w) c.A (assignInOrder ((namesE xs).map fun e => assign e c.fenv) vs) Q E s
  | [], vs, vm, m, cells, s, Q, _, vo, co, X, kk => wpAny_pure (kk m cells s.heap s.toks (by cases vs <;> exact vo) co X)
  | x :: r, [], vm, m, cells, s, Q, _, vo, co, X, kk => wpAny_pure (kk m cells s.heap s.toks vo co X)
  | (x, px) :: r, v :: vs, vm, m, cells, s, Q, hs, vo, co, X, kk => by
    simp only [List.all_cons, Bool.and_eq_true] at hs
    show wpAny _ _ (do holding vs (assign (.Name x px) c.fenv v); assignInOrder ((namesE r).map fun e => assign e c.fenv) vs) Q E s
    exact wpAny_bind (wpAny_holding (wpAny_assign_Name (store_W ok es hs.1 vo co X fun m' cells' h' tk vo' co' X' => storeAll_W ok es hs.2 vo' co' X' fun m'' cells'' h'' tk' vo'' co'' X'' => kk m'' cells'' h'' tk' vo'' co'' X'')))
theorem assignEach_names (env : Env) : ∀ xs : List (Str × Pos), assignEach (namesE xs) env = (namesE xs).map fun e => (false, assign e env)
  | [] => rfl
  | (x, p) :: r => by
    show (false, assign (.Name x p) env) :: assignEach (namesE r) env = _
    rw [assignEach_names env r]; rfl
theorem WSt.unpack {xs : List (Str × Pos)} {k tpos value pos} (h : WE G n sc value vm σ fun v σ' => ∃ a ys, v = .ref a ∧ σ' a = some (.tup ys) ∧ ys.length = xs.length ∧ P .next (vm.setAll (xs.map (·.1)) ys) σ') (hst : xs.all (fun p => stores sc p.1) = true)
    (hs : ∀ env, swapsWithSole [.Tuple (namesE xs) k tpos] value pos.line env = pure false := by intro _; rfl)
    (hw : ∀ env, swappedStores [.Tuple (namesE xs) k tpos] value env = pure Option.none := by intro _; rfl) :
    WSt G n sc (.Assign [.Tuple (namesE xs) k tpos] value pos) vm σ P :=
  fun c m cells ex s Q E ok es vo co X kk => Assign_Tuple (h c c.fenv m (cells ++ ex) s _ E ok (ok.env es) vo.up X fun v σ₁ h₁ tk₁ p X₁ => by
    obtain ⟨a, ys, e, ha, hl, p⟩ := p
    rw [er_is_ref e]
    obtain ⟨vs, q, hv, e'⟩ := X₁.tup ha
    have hz := map_size e'
    refine assign_Tuple_tuple ok.hh (isTup_of hv) (by rw [assignEach_names]; simp [namesE, hz, hl]) (by rw [assignEach_names, List.findIdx?_eq_none_iff]; intro x hx; obtain ⟨_, _, rfl⟩ := List.mem_map.mp hx; rfl) fun h₂ hx => ?_
    have X₂ : Inv G c m (cells ++ ex) σ₁ h₂ := X₁.keeps fun b o e => hx b o (Nat.ne_of_lt (Heap.lt_size e)) e
    rw [assignEach_names, List.map_map]
    exact storeAll_W (vm := vm) (Q := fun _ => Q .next) ok es hst vo co X₂ fun m' cells' h' tk vo' co' X' => kk .next _ σ₁ m' cells' h' tk (by rw [e']; exact p) vo' co' X') (hs _) (hw _)

theorem bindAll_W {c : Cx} {ex} {E : Value → Shared → Prop} (ok : c.Ok G n) (es : c.fenv.scope = sc) : ∀ {xs : List Str} {vs : List Value} {vm : VM} {m cells} {s : Shared} {Q : Unit → Shared → Prop}, xs.all (stores sc) = true →
    VmOk G c.fenv c.L m cells vm → CellsOk c.fenv cells → Inv G c m (cells ++ ex) σ s.heap →
    (∀ m' cells' h' tk, VmOk G c.fenv c.L m' cells' (vm.setAll xs (vs.map er)) → CellsOk c.fenv cells' → Inv G c m' (cells' ++ ex) σ h' → Q () { s with heap := h', toks := tk }) →
    wpAny (model G.prog G.w) c.A (assignInOrder (xs.map fun x => bindName c.fenv x) vs) Q E s
  | [], vs, vm, m, cells, s, Q, _, vo, co, X, kk => wpAny_pure (kk m cells s.heap s.toks (by cases vs <;> exact vo) co X)
  | x :: r, [], vm, m, cells, s, Q, _, vo, co, X, kk => wpAny_pure (kk m cells s.heap s.toks vo co X)
  | x :: r, v :: vs, vm, m, cells, s, Q, hs, vo, co, X, kk => by
    simp only [List.all_cons, Bool.and_eq_true] at hs
    show wpAny _ _ (do holding vs (bindName c.fenv x v); assignInOrder (r.map fun x => bindName c.fenv x) vs) Q E s
    exact wpAny_bind (wpAny_holding (wpAny_bindName (store_W ok es hs.1 vo co X fun m' cells' h' tk vo' co' X' => bindAll_W ok es hs.2 vo' co' X' fun m'' cells'' h'' tk' vo'' co'' X'' => kk m'' cells'' h'' tk' vo'' co'' X'')))
/-- a, b = e, f: the tuple is made and let go -/
theorem WSt.swapped {elts k tpos vals kv vpos pos} {names : List Str} (h : WArgs G n sc vm vals σ fun ys σ' => ys.length = names.length ∧ ys.length ≤ 100000 ∧ P .next (vm.setAll names.reverse ys.reverse) σ') (hst : names.all (stores sc) = true) (hn : noStar vals = true := by rfl)
    (hs : ∀ env, swapsWithSole [.Tuple elts k tpos] (.Tuple vals kv vpos) pos.line env = pure false := by intro _; rfl)
    (hw : ∀ env : Env, env.scope = sc → swappedStores [.Tuple elts k tpos] (.Tuple vals kv vpos) env = pure (some names)) :
    WSt G n sc (.Assign [.Tuple elts k tpos] (.Tuple vals kv vpos) pos) vm σ P :=
  fun c m cells ex s Q E ok es vo co X kk => Assign_Tuple_swapped (names := names) (Tuple_ (WArgs.run ok (ok.env es) vo.up hn h X fun vs σ₁ h₁ tk₁ p X₁ => by
    obtain ⟨hl, hz, p⟩ := p
    rw [List.length_map] at hl hz
    have hz' : vs.length ≤ sizeLine := sl_le (by omega)
    refine PySem.wpAny_newTuple ?_ hz'
    have ht : IsTup (h₁.push { cls := .type "tuple", data := .seq vs.toArray }) h₁.objs.size vs.toArray := isTup_of (n := 0) (Heap.get?_push_size _ rfl)
    have X₂ := X₁.keeps (h' := h₁.push { cls := .type "tuple", data := .seq vs.toArray }) fun b o e => Heap.get?_push_of_some _ e
    have hu := unpackItems_tuple (prog := G.prog) (w := G.w) (E := E) (s := { s with heap := h₁.push { cls := .type "tuple", data := .seq vs.toArray }, toks := tk₁ }) ok.hh ht
      (Q := fun items s₂ => wpAny (model G.prog G.w) c.A (assignInOrder (names.reverse.map fun n => bindName c.fenv n) items.reverse) (fun _ => Q .next) E s₂) fun h₃ hx => ?_
    · have e : vs.toArray.size = names.length := by simp [hl]
      rw [e] at hu
      exact hu
    · have X₃ : Inv G c m (cells ++ ex) σ₁ h₃ := X₂.keeps fun b o e => hx b o (Nat.ne_of_lt (Heap.lt_size e)) e
      refine bindAll_W (Q := fun _ => Q .next) ok es (by simpa using hst) vo co X₃ fun m' cells' h' tk vo' co' X' => kk .next _ σ₁ m' cells' h' tk ?_ vo' co' X'
      have e : (vs.toArray.toList.reverse.map er) = (vs.map er).reverse := by simp
      rw [e]; exact p)) (hs _) (hw _ es)

/-- the loop's own rule: an invariant over the turns -/
def Turns (G : GX) (n : Nat) (sc : Scope) (x : Str) (body : List Stmt) (P : Flow → VM → AH → Prop) (xs : List Value) (ok : AH → Prop) (vm : VM) (σ : AH) : Prop :=
  ∃ J : Nat → VM → AH → Prop, J 0 vm σ ∧ (∀ k vm σ, J k vm σ → ok σ) ∧
    (∀ k y vm σ, xs[k]? = some y → J k vm σ → WS G n sc body (vm.set x y) σ fun fl vm' σ' => match fl with | .next | .cont => J (k + 1) vm' σ' | .brk => P .next vm' σ' | .ret v => P (.ret v) vm' σ') ∧
    ∀ vm σ, J xs.length vm σ → P .next vm σ

inductive FOJ (G : GX) (c : Cx) (ex : Led) (s : Shared) (xs : List Value) (J : Nat → VM → AH → Prop) (it : Nat → Led → Prop) (b : Nat) (s' : Shared) : Prop
  | mk (k : Nat) (vm' : VM) (σ' : AH) (m' : Str → Option Value) (cells' l' : Led) (h' : Heap) (tk' : Nat) : s' = { s with heap := h', toks := tk' } → k ≤ xs.length → b = xs.length - k → J k vm' σ' → it k l' → VmOk G c.fenv c.L m' cells' vm' → CellsOk c.fenv cells' → Inv G c m' (l' ++ (cells' ++ ex)) σ' h' → FOJ G c ex s xs J it b s'
theorem WSt.for_ {x px iter body pos} (h : WIt G n sc iter vm σ fun xs ok σ₁ => Turns G n sc x body P xs ok vm σ₁) (hx : stores sc x = true) (hs : ∀ env x, foldedSetIterable iter env x = pure x := by intro _ _; rfl) :
    WSt G n sc (.For (.Name x px) iter body [] pos) vm σ P := by
  intro c m cells ex s Q E ok es vo co X kk
  refine wpAny_For (h c c.fenv m (cells ++ ex) s _ E ok (ok.env es) vo.up X fun I l xs hok it σ₁ h₁ tk₁ ii i0 X₁ p => ?_) (hs _)
  obtain ⟨J, j0, jok, jstep, jdone⟩ := p
  refine codeAny_forLoop
    (FOJ G c ex s xs J it) ?_ xs.length
    ⟨0, vm, σ₁, m, cells, l, h₁, tk₁, rfl, Nat.zero_le _, rfl, j0, i0, vo, co, X₁⟩
  rintro b s' ⟨k, vm', σ', m', cells', l', h', tk', rfl, hle, rfl, hj, hi, vo', co', X'⟩
  rcases Nat.lt_or_ge k xs.length with hlt | hge
  · have hx' : xs[k]? = some xs[k] := List.getElem?_eq_getElem hlt
    refine ii.item c m' (cells' ++ ex) σ' _ _ _ k l' xs[k] ok (jok _ _ _ hj) hi hx' X' fun v l'' h'' tk'' ev hi' X'' => ?_
    have perm : (l'' ++ (cells' ++ ex)).Perm (cells' ++ (l'' ++ ex)) := by
      rw [← List.append_assoc, ← List.append_assoc]
      exact List.Perm.append_right _ List.perm_append_comm
    have X3 := X''.perm perm
    refine wpAny_assign_Name (store_W ok es hx vo' co' X3 fun m3 cells3 h3 tk3 vo3 co3 X3' => ?_)
    rw [ev] at vo3
    refine jstep k xs[k] vm' σ' hx' hj c m3 cells3 (l'' ++ ex) _ _ _ ok es vo3 co3 X3' fun fl vm4 σ4 m4 cells4 h4 tk4 p4 vo4 co4 X4 => ?_
    have perm4 : (cells4 ++ (l'' ++ ex)).Perm (l'' ++ (cells4 ++ ex)) := by
      rw [← List.append_assoc, ← List.append_assoc]
      exact List.Perm.append_right _ List.perm_append_comm
    have X5 := X4.perm perm4
    cases fl with
    | next => exact ⟨xs.length - (k + 1), by omega, k + 1, vm4, σ4, m4, cells4, l'', h4, tk4, rfl, hlt, rfl, p4, hi', vo4, co4, X5⟩
    | cont => exact ⟨xs.length - (k + 1), by omega, k + 1, vm4, σ4, m4, cells4, l'', h4, tk4, rfl, hlt, rfl, p4, hi', vo4, co4, X5⟩
    | brk => exact kk .next vm4 σ4 m4 cells4 h4 tk4 p4 vo4 co4 X5.drop
    | ret v => exact kk (.ret v) vm4 σ4 m4 cells4 h4 tk4 p4 vo4 co4 X5.drop
  · obtain rfl : k = xs.length := Nat.le_antisymm hle hge
    refine ii.done c m' (cells' ++ ex) σ' _ _ _ l' ok (jok _ _ _ hj) hi X' fun h'' tk'' X'' => ?_
    exact wpAny_execs_nil (kk .next vm' σ' m' cells' h'' tk'' (jdone _ _ hj) vo' co' X'')

inductive WHJ (G : GX) (c : Cx) (ex : Led) (s : Shared) (J : Nat → VM → AH → Prop) (k : Nat) (s' : Shared) : Prop
  | mk (vm' : VM) (σ' : AH) (m' : Str → Option Value) (cells' : Led) (h' : Heap) (tk' : Nat) : s' = { s with heap := h', toks := tk' } → J k vm' σ' → VmOk G c.fenv c.L m' cells' vm' → CellsOk c.fenv cells' → Inv G c m' (cells' ++ ex) σ' h' → WHJ G c ex s J k s'
theorem WSt.while_ {test body pos} (J : Nat → VM → AH → Prop) (k : Nat) (h0 : J k vm σ) (hstep : ∀ k vm σ, J k vm σ → WT G n sc test vm σ fun b σ' => if b then WS G n sc body vm σ' (fun fl vm' σ'' => match fl with | .next | .cont => ∃ j, j < k ∧ J j vm' σ'' | .brk => P .next vm' σ'' | .ret v => P (.ret v) vm' σ'') else P .next vm σ') :
    WSt G n sc (.While test body [] pos) vm σ P := by
  intro c m cells ex s Q E ok es vo co X kk
  refine wpAny_While (codeAny_whileLoop
    (WHJ G c ex s J) ?_ k
    ⟨vm, σ, m, cells, s.heap, s.toks, rfl, h0, vo, co, X⟩)
  rintro k s' ⟨vm', σ', m', cells', h', tk', rfl, hj, vo', co', X'⟩
  refine hstep k vm' σ' hj c c.fenv m' (cells' ++ ex) _ _ _ ok (ok.env es) vo'.up X' fun b σ'' h'' tk'' p X'' => ?_
  cases b with
  | false => exact wpAny_execs_nil (kk .next vm' σ'' m' cells' h'' tk'' p vo' co' X'')
  | true =>
    refine p c m' cells' ex _ _ _ ok es vo' co' X'' fun fl vm4 σ4 m4 cells4 h4 tk4 p4 vo4 co4 X4 => ?_
    cases fl with
    | next => obtain ⟨j, hlt, hj'⟩ := p4; exact ⟨j, hlt, vm4, σ4, m4, cells4, h4, tk4, rfl, hj', vo4, co4, X4⟩
    | cont => obtain ⟨j, hlt, hj'⟩ := p4; exact ⟨j, hlt, vm4, σ4, m4, cells4, h4, tk4, rfl, hj', vo4, co4, X4⟩
    | brk => exact kk .next vm4 σ4 m4 cells4 h4 tk4 p4 vo4 co4 X4
    | ret v => exact kk (.ret v) vm4 σ4 m4 cells4 h4 tk4 p4 vo4 co4 X4
end
-- MEnum
section
variable {G : GX} {c : Cx} {m : Str → Option Value} {ex l l' : Led} {σ : AH} {h h' : Heap}
theorem Inv.exSetL (X : Inv G c m (l ++ ex) σ h) (hk : keys l' = keys l) (hl : ∀ p ∈ l', h'.get? p.1 = some p.2) (hs : ∀ b o, b ∉ keys l → h.get? b = some o → h'.get? b = some o) : Inv G c m (l' ++ ex) σ h' := by
  obtain ⟨dom, en, F, N, B⟩ := X
  have nd := B.nd
  have inl : ∀ b ∈ keys l, b ≠ c.L ∧ c.h₀.get? b = none := fun b hb => by
    obtain ⟨p, hp, rfl⟩ := List.mem_map.mp hb
    exact (N p (by simp [hp])).2
  obtain ⟨oL, a1, a2, hL, a3⟩ := F.ns
  have disj : ∀ p ∈ dom.flatMap en ++ ex, p.1 ∉ keys l := fun p hp hm => by
    unfold keys at nd hm
    rw [List.map_append, List.map_append, ← List.append_assoc] at nd
    obtain ⟨n1, n2, n3⟩ := List.nodup_append.mp nd
    rcases List.mem_append.mp hp with q | q
    · exact (List.nodup_append.mp n1).2.2 p.1 (List.mem_map.mpr ⟨p, q, rfl⟩) p.1 hm rfl
    · exact n3 p.1 (List.mem_append_right _ hm) p.1 (List.mem_map.mpr ⟨p, q, rfl⟩) rfl
  refine ⟨dom, en, ⟨⟨oL, a1, a2, hs _ _ (fun hm => (inl _ hm).1 rfl) hL, a3⟩, fun b ob e => hs b ob (fun hm => ?_) (F.keep b ob e), F.above⟩, fun p hp => ?_, ⟨?_, B.dnd, B.ent⟩⟩
  · have := (inl _ hm).2; rw [e] at this; cases this
  · rcases List.mem_append.mp hp with q | q
    · have := N p (List.mem_append_left _ q)
      exact ⟨hs _ _ (disj p (List.mem_append_left _ q)) this.1, this.2⟩
    · rcases List.mem_append.mp q with q | q
      · exact ⟨hl p q, inl _ (hk ▸ List.mem_map.mpr ⟨p, q, rfl⟩)⟩
      · have := N p (by simp [q])
        exact ⟨hs _ _ (disj p (List.mem_append_right _ q)) this.1, this.2⟩
  · unfold keys at nd hk ⊢
    rw [List.map_append, List.map_append, hk, ← List.map_append, ← List.map_append]; exact nd
theorem Inv.exDropL (X : Inv G c m (l ++ ex) σ h) (hs : ∀ b o, b ∉ keys l → h.get? b = some o → h'.get? b = some o) : Inv G c m ex σ h' := by
  obtain ⟨dom, en, F, N, B⟩ := X
  have nd := B.nd
  have inl : ∀ b ∈ keys l, b ≠ c.L ∧ c.h₀.get? b = none := fun b hb => by
    obtain ⟨p, hp, rfl⟩ := List.mem_map.mp hb
    exact (N p (by simp [hp])).2
  obtain ⟨oL, a1, a2, hL, a3⟩ := F.ns
  have disj : ∀ p ∈ dom.flatMap en ++ ex, p.1 ∉ keys l := fun p hp hm => by
    unfold keys at nd hm
    rw [List.map_append, List.map_append, ← List.append_assoc] at nd
    obtain ⟨n1, n2, n3⟩ := List.nodup_append.mp nd
    rcases List.mem_append.mp hp with q | q
    · exact (List.nodup_append.mp n1).2.2 p.1 (List.mem_map.mpr ⟨p, q, rfl⟩) p.1 hm rfl
    · exact n3 p.1 (List.mem_append_right _ hm) p.1 (List.mem_map.mpr ⟨p, q, rfl⟩) rfl
  refine ⟨dom, en, ⟨⟨oL, a1, a2, hs _ _ (fun hm => (inl _ hm).1 rfl) hL, a3⟩, fun b ob e => hs b ob (fun hm => ?_) (F.keep b ob e), F.above⟩, fun p hp => ?_, ⟨?_, B.dnd, B.ent⟩⟩
  · have := (inl _ hm).2; rw [e] at this; cases this
  · have := N p (by rcases List.mem_append.mp hp with q | q
                    · exact List.mem_append_left _ q
                    · simp [q])
    exact ⟨hs _ _ (disj p hp) this.1, this.2⟩
  · exact nd.sublist ((List.Sublist.append (List.Sublist.refl _) (List.sublist_append_right _ _)).map _)
theorem Inv.exNewL (X : Inv G c m ex σ h) (hn : (keys l).Nodup) (hl : ∀ p ∈ l, h'.get? p.1 = some p.2 ∧ h.objs.size ≤ p.1) (hs : ∀ b o, h.get? b = some o → h'.get? b = some o) : Inv G c m (l ++ ex) σ h' := by
  have X' := X.keeps hs
  obtain ⟨dom, en, F, N, B⟩ := X
  have hlt : ∀ p ∈ dom.flatMap en ++ ex, p.1 < h.objs.size := fun p hp => Heap.lt_size (N p hp).1
  have F' := X'.fr
  refine ⟨dom, en, F', fun p hp => ?_, ⟨?_, B.dnd, B.ent⟩⟩
  · rcases List.mem_append.mp hp with q | q
    · have := N p (List.mem_append_left _ q); exact ⟨hs _ _ this.1, this.2⟩
    · rcases List.mem_append.mp q with q | q
      · refine ⟨(hl p q).1, fun e => ?_, ?_⟩
        · have := F.ns.lt
          have h2 := (hl p q).2
          rw [e] at h2
          exact absurd this (Nat.not_lt.mpr h2)
        · cases e : c.h₀.get? p.1 with
          | none => rfl
          | some ob => exact absurd (Heap.lt_size (F.keep _ _ e)) (Nat.not_lt.mpr (hl p q).2)
      · have := N p (by simp [q]); exact ⟨hs _ _ this.1, this.2⟩
  · have nd := B.nd
    have hp : (dom.flatMap en ++ (l ++ ex)).Perm (l ++ (dom.flatMap en ++ ex)) := by
      rw [← List.append_assoc, ← List.append_assoc]
      exact List.Perm.append_right _ List.perm_append_comm
    refine (List.Perm.nodup_iff (hp.map _)).mpr ?_
    rw [List.map_append]
    refine List.nodup_append.mpr ⟨hn, nd, fun a ha b hb e => ?_⟩
    obtain ⟨p, hp, rfl⟩ := List.mem_map.mp ha
    obtain ⟨q, hq, rfl⟩ := List.mem_map.mp hb
    have := hlt q hq
    rw [← e] at this
    exact absurd this (Nat.not_lt.mpr (hl p hp).2)
end

abbrev enumObj (it : Addr) (j : Int) (old : Value) : Obj := { cls := .type "enumerate", dict := none, data := .fields #[.none, .bool false, .ref it, rawInt j, .none, old], slots := #[] }
section
variable {G : GX} {n : Nat} {sc : Scope} {σ : AH} {vm : VM} {P : Flow → VM → AH → Prop}
inductive ENJ (G : GX) (c : Cx) (ex : Led) (s : Shared) (xs : List Value) (J : Nat → VM → AH → Prop) (a I it : Addr) (b : Nat) (s' : Shared) : Prop
  | mk (j : Nat) (vm' : VM) (σ' : AH) (m' : Str → Option Value) (cells' : Led) (oi : Obj) (old : Value) (h' : Heap) (tk' : Nat) : s' = { s with heap := h', toks := tk' } → j ≤ xs.length → b = xs.length - j → J j vm' σ' → VmOk G c.fenv c.L m' cells' vm' → CellsOk c.fenv cells' →
      oi.cls = .type "list_iterator" → oi.data = .fields #[.ref a, .int j 0] →
      Inv G c m' ([(I, enumObj it j old), (it, oi)] ++ (cells' ++ ex)) σ' h' → ENJ G c ex s xs J a I it b s'
theorem WSt.forEnum {xi xv pi pv k tpos func e₁ cpos body pos} (h : WE G n sc func vm σ fun f σ₁ => f = .type "enumerate" ∧ WArgs G n sc vm [e₁] σ₁ fun vs σ₂ => ∃ a xs, vs = [.ref a] ∧ σ₂ a = some (.list xs) ∧
      ∃ J : Nat → VM → AH → Prop, J 0 vm σ₂ ∧ (∀ k vm σ, J k vm σ → σ a = some (.list xs)) ∧
        (∀ k y vm σ, xs[k]? = some y → J k vm σ → WS G n sc body ((vm.set xi (.int k 0)).set xv y) σ fun fl vm' σ' => match fl with | .next | .cont => J (k + 1) vm' σ' | .brk => P .next vm' σ' | .ret v => P (.ret v) vm' σ') ∧
        ∀ vm σ, J xs.length vm σ → P .next vm σ)
    (hi : stores sc xi = true) (hv : stores sc xv = true) (hn : noStar [e₁] = true := by rfl)
    (he : ∀ env, eval (.Call func [e₁] [] cpos) env = (do callWith cpos (← eval func env) [] (backTo cpos (starEach [e₁] env)) (backToKw cpos (keywordEach [] env))) := by intro _; rfl)
    (hs : ∀ env x, foldedSetIterable (.Call func [e₁] [] cpos) env x = pure x := by intro _ _; rfl) :
    WSt G n sc (.For (.Tuple [.Name xi pi, .Name xv pv] k tpos) (.Call func [e₁] [] cpos) body [] pos) vm σ P := by
  intro c m cells ex s Q E ok es vo co X kk
  refine wpAny_For (Call_ (h c c.fenv m (cells ++ ex) s _ E ok (ok.env es) vo.up X fun f σ₁ h₁ tk₁ p₁ I₁ => ?_) (he _)) (hs _)
  rw [er_is_type p₁.1]
  refine callWith_run ok (ok.env es) vo.up hn (f := .type "enumerate") trivial (first := []) p₁.2 I₁ fun vs σ₂ h₂ tk₂ p₂ I₂ => ?_
  obtain ⟨a, xs, e, ha, J, j0, jok, jstep, jdone⟩ := p₂
  obtain ⟨x, rfl, e1⟩ := args1 e
  rw [er_is_ref e1]
  obtain ⟨ws, q, hw, e'⟩ := I₂.list ha
  refine call_enumerate_list (isList_of hw) fun h₃ he₃ hit₃ hz₃ hk₃ => wpAny_pyIter_enum he₃ ?_
  obtain ⟨oi, hoi, hci, hdi⟩ := id hit₃
  have X₃ : Inv G c m ([(h₂.objs.size + 1, _), (h₂.objs.size, oi)] ++ (cells ++ ex)) σ₂ h₃ := I₂.exNewL (by simp) (fun p hp => by
    simp only [List.mem_cons, List.not_mem_nil, or_false] at hp
    rcases hp with rfl | rfl
    · exact ⟨he₃, Nat.le_succ _⟩
    · exact ⟨hoi, Nat.le_refl _⟩) hk₃
  generalize hE : h₂.objs.size + 1 = I at he₃ X₃ ⊢
  generalize hIt : h₂.objs.size = it at he₃ hit₃ hoi X₃
  have hne : I ≠ it := by omega
  clear hE hIt he₃ hit₃ hz₃ hk₃ hw
  refine codeAny_forLoop_any
    (ENJ G c ex s xs J a I it) ?_ xs.length
    ⟨0, vm, σ₂, m, cells, oi, .none, h₃, _, rfl, Nat.zero_le _, rfl, j0, vo, co, hci, hdi, X₃⟩
  rintro b s' ⟨j, vm', σ', m', cells', oi', old, h', tk', rfl, hle, rfl, hj, vo', co', hc', hd', X'⟩
  have ha' := jok _ _ _ hj
  obtain ⟨vs, q', hv', ev⟩ := X'.list ha'
  have hz := map_size ev
  have gE := X'.exGet (I := I) (List.mem_cons_self ..)
  have gI := X'.exGet (I := it) (o := oi') (by simp)
  rcases Nat.lt_or_ge j xs.length with hlt | hge
  · obtain ⟨v, h5, hev⟩ := map_get ev (List.getElem?_eq_getElem hlt)
    refine wpAny_pyNext_enum_item gE ⟨oi', gI, hc', hd'⟩ (isList_of hv') h5 hne fun h6 heo hit6 ht6 hz6 hk6 => ?_
    obtain ⟨oi6, hoi6, hci6, hdi6⟩ := hit6
    refine wpAny_letOwnedTupleGo_enum heo fun h7 he7 hs7 => ?_
    have hI : I < h'.objs.size := Heap.lt_size gE
    have hit' : it < h'.objs.size := Heap.lt_size gI
    have ht7 : h7.IsTuple h'.objs.size #[.int j tk', v] := ⟨_, (hs7.2 _ (Nat.ne_of_gt hI)).trans ht6, rfl, _, rfl⟩
    have X7 : Inv G c m' ([(I, enumObj it (j + 1) v), (it, oi6)] ++ (cells' ++ ex)) σ' h7 := X'.exSetL (l' := [(I, enumObj it (j + 1) v), (it, oi6)]) rfl (fun p hp => by
      simp only [List.mem_cons, List.not_mem_nil, or_false] at hp
      rcases hp with rfl | rfl
      · exact he7
      · exact (hs7.2 _ (Ne.symm hne)).trans hoi6) (fun b o hb e => by
        simp only [keys, List.map_cons, List.map_nil, List.mem_cons, List.not_mem_nil, or_false, not_or] at hb
        exact (hs7.2 _ hb.1).trans (hk6 b o hb.1 hb.2 e))
    refine wpAny_assign_Tuple ok.hh ht7 rfl rfl fun h8 hx8 => ?_
    have X8 := X7.keeps fun b o e => hx8 b o (Nat.ne_of_lt (Heap.lt_size e)) e
    have perm : ([(I, enumObj it (j + 1) v), (it, oi6)] ++ (cells' ++ ex)).Perm (cells' ++ ([(I, enumObj it (j + 1) v), (it, oi6)] ++ ex)) := by
      rw [← List.append_assoc, ← List.append_assoc]
      exact List.Perm.append_right _ List.perm_append_comm
    have X9 := X8.perm perm
    refine storeAll_W (xs := [(xi, pi), (xv, pv)]) (vs := [.int j tk', v]) ok es (by simp [hi, hv]) vo' co' X9 fun m3 cells3 h3 tk3 vo3 co3 X3' => ?_
    have vo3' : VmOk G c.fenv c.L m3 cells3 ((vm'.set xi (.int j 0)).set xv xs[j]) := by rw [← hev]; exact vo3
    refine jstep j xs[j] vm' σ' (List.getElem?_eq_getElem hlt) hj c m3 cells3 _ _ _ _ ok es vo3' co3 X3' fun fl vm4 σ4 m4 cells4 h4 tk4 p4 vo4 co4 X4 => ?_
    have perm4 := fun (l : Led) => (show (cells4 ++ (l ++ ex)).Perm (l ++ (cells4 ++ ex)) by
      rw [← List.append_assoc, ← List.append_assoc]
      exact List.Perm.append_right _ List.perm_append_comm)
    have X5 := X4.perm (perm4 _)
    cases fl with
    | next => exact ⟨xs.length - (j + 1), by omega, j + 1, vm4, σ4, m4, cells4, oi6, v, h4, tk4, rfl, hlt, rfl, p4, vo4, co4, hci6, hdi6, X5⟩
    | cont => exact ⟨xs.length - (j + 1), by omega, j + 1, vm4, σ4, m4, cells4, oi6, v, h4, tk4, rfl, hlt, rfl, p4, vo4, co4, hci6, hdi6, X5⟩
    | brk => exact kk .next vm4 σ4 m4 cells4 h4 tk4 p4 vo4 co4 X5.drop
    | ret v => exact kk (.ret v) vm4 σ4 m4 cells4 h4 tk4 p4 vo4 co4 X5.drop
  · obtain rfl : j = xs.length := Nat.le_antisymm hle hge
    refine wpAny_pyNext_enum_end ok.hh gE ⟨oi', gI, hc', hd'⟩ (isList_of hv') (by rw [← hz]; simp) fun h6 hx6 => wpAny_execs_nil ?_
    exact kk .next vm' σ' m' cells' h6 tk' (jdone _ _ hj) vo' co' (X'.exDropL fun b o hb e => hx6 b o (by
      simp only [keys, List.map_cons, List.map_nil, List.mem_cons, List.not_mem_nil, or_false, not_or] at hb
      exact hb.2) e)
end
-- MFun
/-- the globals that a scope reads -/
def gvm (G : GX) (sc : Scope) : VM := fun x => if sc.names.lookup x = some .globalImplicit ∧ (x == ("__debug__" : Str)) = false then
    (match nsIn G.K mainGlobals x with
      | some (some v) => some (er v)
      | some none => if x = "__name__" then none else (bootBuiltins x).map er
      | none => none) else none
def argVM (G : GX) (sc : Scope) (bs : List (Str × Value)) : VM := fun x => match bs.lookup x with
  | some v => some v
  | none => gvm G sc x

structure FnK (G : GX) (f : Addr) (k : Nat) (names : List Str) (dfl : List Value) (scope : Scope) (body : List Stmt) : Prop where
  at_ : ∃ name qual params oc dV kV doc pm cdv ct an od osl, G.K.lookup f = some ⟨oc, od, .func (fnOf name qual params body scope dV kV doc pm an cdv ct), osl⟩ ∧ codeIn G.K cdv qual = true ∧
    ∃ dfl', dfl'.map er = dfl ∧ ∀ vs : List Value, vs.length = k → ∀ S, peek G.K S (bindArgs (fnOf name qual params body scope dV kV doc pm an cdv ct) ⟨vs, []⟩) = some (names.zip (vs ++ dfl'))
  locs : names.all (fun y => (scope.names.lookup y == some .local || scope.names.lookup y == some .cell) && !(y == ("__debug__" : Str))) = true
  nd : names.Nodup
  cnd : ((cellsFrom 0 scope.names []).map (·.1)).Nodup
  co : scope.isCoroutine = false
  gen : scope.isGenerator = false
  kind : scope.kind = .function

def WCode (G : GX) (n : Nat) (f : Addr) (args : List Value) (σ : AH) (P : Value → AH → Prop) : Prop :=
  ∀ args' : List Value, args'.map er = args → ∀ (c : Cx) (m : Str → Option Value) (ex : Led) (s : Shared) (R : Result → Shared → Prop), c.Ok G n → Inv G c m ex σ s.heap →
    (∀ v σ' h' tk, P (er v) σ' → Inv G c m ex σ' h' → R (.ok (.ret v)) { s with heap := h', toks := tk }) → codeAny (model G.prog G.w) c.A (.call (.ref f) ⟨args', []⟩) R s

theorem cellsFrom_nd : ∀ (names : List (Str × NameKind)) (n : Nat) (acc : List (Str × Addr)), (acc.map (·.2)).Nodup → (∀ p ∈ acc, p.2 < n) → ((cellsFrom n names acc).map (·.2)).Nodup
  | [], _, _, h, _ => h
  | (x, k) :: r, n, acc, h, hl => by
    unfold cellsFrom
    split
    · refine cellsFrom_nd r (n + 1) ((x, n) :: acc) ?_ ?_
      · rw [List.map_cons, List.nodup_cons]
        refine ⟨fun hm => ?_, h⟩
        obtain ⟨p, hp, e⟩ := List.mem_map.mp hm
        have := hl p hp
        exact absurd e (Nat.ne_of_lt this)
      · intro p hp
        rcases List.mem_cons.mp hp with rfl | hp
        · exact Nat.lt_succ_self _
        · exact Nat.lt_succ_of_lt (hl p hp)
    · exact cellsFrom_nd r n acc h hl
theorem cellsFrom_ge : ∀ (names : List (Str × NameKind)) (n lo : Nat) (acc : List (Str × Addr)), lo ≤ n → (∀ p ∈ acc, lo ≤ p.2) → ∀ p ∈ cellsFrom n names acc, lo ≤ p.2
  | [], _, _, _, _, h => h
  | (x, k) :: r, n, lo, acc, hn, h => by
    unfold cellsFrom
    split
    · refine cellsFrom_ge r (n + 1) lo ((x, n) :: acc) (Nat.le_succ_of_le hn) ?_
      intro p hp
      rcases List.mem_cons.mp hp with rfl | hp
      · exact hn
      · exact h p hp
    · exact cellsFrom_ge r n lo acc hn h
theorem snd_inj : ∀ {l : List (Str × Addr)} {x y : Str} {a : Addr}, (l.map (·.2)).Nodup → (x, a) ∈ l → (y, a) ∈ l → x = y
  | p :: r, x, y, a, hn, h1, h2 => by
    rw [List.map_cons, List.nodup_cons] at hn
    rcases List.mem_cons.mp h1 with e1 | h1 <;> rcases List.mem_cons.mp h2 with e2 | h2
    · rw [← e1] at e2; exact (Prod.mk.inj e2).1.symm
    · exact absurd (List.mem_map.mpr ⟨_, h2, by rw [← e1]⟩) hn.1
    · exact absurd (List.mem_map.mpr ⟨_, h1, by rw [← e2]⟩) hn.1
    · exact snd_inj hn.2 h1 h2
theorem lookup_mem : ∀ {l : List (Str × Addr)} {x : Str} {a : Addr}, l.lookup x = some a → (x, a) ∈ l
  | (y, b) :: r, x, a, h => by
    rw [List.lookup_cons] at h
    split at h
    · rename_i q; cases h; rw [beq_iff_eq.mp q]; exact .head _
    · exact .tail _ (lookup_mem h)
theorem CellsAre.keys {cm : Str → Option Value} {cs : List (Str × Addr)} {cells : List (Addr × Obj)} (h : CellsAre cm cs cells) : keys cells = cs.map (·.2) := by
  induction h with
  | nil => rfl
  | cons h r ih => unfold Mine.keys at ih ⊢; rw [List.map_cons, List.map_cons, ih]
theorem CellsAre.at_ {cm : Str → Option Value} {cs : List (Str × Addr)} {cells : List (Addr × Obj)} (h : CellsAre cm cs cells) {x a} (hl : cs.lookup x = some a) : ∃ o, (a, o) ∈ cells ∧ o.data = .cell (cm x) := by
  induction h with
  | nil => cases hl
  | @cons n c o cs cells hd r ih =>
    rw [List.lookup_cons] at hl
    split at hl
    · rename_i q; cases hl; rw [beq_iff_eq.mp q]; exact ⟨o, .head _, hd⟩
    · obtain ⟨o, h1, h2⟩ := ih hl; exact ⟨o, .tail _ h1, h2⟩
theorem bindL_out {ko : Str → Option NameKind} {x : Str} : ∀ {bs : List (Str × Value)} {m}, x ∉ bs.map (·.1) → bindL ko bs m x = m x
  | [], _, _ => rfl
  | (y, v) :: r, m, h => by
    simp only [List.map_cons, List.mem_cons, not_or] at h
    unfold bindL
    rw [bindL_out h.2]
    split
    · exact if_neg h.1
    · rfl
theorem bindC_out {ko : Str → Option NameKind} {x : Str} : ∀ {bs : List (Str × Value)} {m}, x ∉ bs.map (·.1) → bindC ko bs m x = m x
  | [], _, _ => rfl
  | (y, v) :: r, m, h => by
    simp only [List.map_cons, List.mem_cons, not_or] at h
    unfold bindC
    rw [bindC_out h.2]
    split
    · rfl
    · exact if_neg h.1
theorem bindL_in {ko : Str → Option NameKind} {x : Str} {v : Value} : ∀ {bs : List (Str × Value)} {m}, (bs.map (·.1)).Nodup → ko x = some .local → bs.lookup x = some v → bindL ko bs m x = some v
  | (y, u) :: r, m, hn, hk, h => by
    rw [List.map_cons, List.nodup_cons] at hn
    rw [List.lookup_cons] at h
    unfold bindL
    split at h
    · rename_i q
      have q := beq_iff_eq.mp q
      subst q
      cases h
      rw [bindL_out hn.1, if_pos hk]; exact if_pos rfl
    · exact bindL_in hn.2 hk h
theorem bindC_in {ko : Str → Option NameKind} {x : Str} {v : Value} : ∀ {bs : List (Str × Value)} {m}, (bs.map (·.1)).Nodup → ko x ≠ some .local → bs.lookup x = some v → bindC ko bs m x = some v
  | (y, u) :: r, m, hn, hk, h => by
    rw [List.map_cons, List.nodup_cons] at hn
    rw [List.lookup_cons] at h
    unfold bindC
    split at h
    · rename_i q
      have q := beq_iff_eq.mp q
      subst q
      cases h
      rw [bindC_out hn.1, if_neg hk]; exact if_pos rfl
    · exact bindC_in hn.2 hk h
theorem zip_map_er (names : List Str) (vs : List Value) {x : Str} {v : Value} (h : (names.zip (vs.map er)).lookup x = some v) : ∃ v', (names.zip vs).lookup x = some v' ∧ er v' = v := by
  induction names generalizing vs with
  | nil => cases h
  | cons y r ih =>
    cases vs with
    | nil => cases h
    | cons u vs =>
      simp only [List.map_cons, List.zip_cons_cons, List.lookup_cons] at h ⊢
      split at h
      · cases h; exact ⟨u, rfl, rfl⟩
      · exact ih vs h
theorem zip_names : ∀ (names : List Str) (vs : List Value), ∃ k, (names.zip vs).map (·.1) = names.take k
  | [], _ => ⟨0, rfl⟩
  | _ :: _, [] => ⟨0, rfl⟩
  | x :: r, _ :: vs => by obtain ⟨k, h⟩ := zip_names r vs; exact ⟨k + 1, by simp [h]⟩
theorem lookup_key : ∀ {l : List (Str × Value)} {x : Str} {v : Value}, l.lookup x = some v → x ∈ l.map (·.1)
  | (y, u) :: r, x, v, h => by
    rw [List.lookup_cons] at h
    split at h
    · rename_i q; rw [beq_iff_eq.mp q]; exact .head _
    · exact .tail _ (lookup_key h)

section
variable {G : GX} {n k : Nat} {σ : AH} {P : Value → AH → Prop} {f : Addr} {names : List Str} {dfl args : List Value} {scope : Scope} {body : List Stmt}

theorem gvm_ok {env : Env} {L : Addr} {m} {ex : Led} {x : Str} {v : Value} (hs : env.scope = scope) (h : gvm G scope x = some v) : (x == ("__debug__" : Str)) = false ∧ ∃ v', er v' = v ∧ Rd G env L m ex x v' := by
  unfold gvm at h
  split at h
  · rename_i q
    have hk : env.kindOf x = some .globalImplicit := by unfold Env.kindOf; rw [hs]; exact q.1
    refine ⟨q.2, ?_⟩
    split at h
    · rename_i v0 e; cases h; exact ⟨_, rfl, .glob hk e⟩
    · rename_i e
      split at h
      · cases h
      · rename_i ne
        cases hb : bootBuiltins x with
        | none => rw [hb] at h; cases h
        | some v0 => rw [hb] at h; cases h; exact ⟨_, rfl, .bi hk e hb ne⟩
    · cases h
  · cases h

theorem WCode.of (K : FnK G f k names dfl scope body) (hl : args.length = k)
    (h : WS G n scope body (argVM G scope (names.zip (args ++ dfl))) σ fun fl vm' σ' => match fl with | .ret v => P v σ' | .next => P .none σ' | _ => False) : WCode G (n + 1) f args σ P := by
  intro args' ea c m ex s R ok I kk
  obtain ⟨name, qual, params, oc, dV, kV, doc, pm, cdv, ct, an, od, osl, hlk, hcd, dfl', hdf, hbind⟩ := K.at_
  have hl' : args'.length = k := by rw [← hl, ← ea]; simp
  have hlocs := List.all_eq_true.mp K.locs
  have hin : ∀ y ∈ names.zip (args' ++ dfl'), y.1 ∈ names := fun y hy => (List.of_mem_zip hy).1
  have hnd : ((names.zip (args' ++ dfl')).map (·.1)).Nodup := by
    obtain ⟨j, e⟩ := zip_names names (args' ++ dfl')
    rw [e]; exact K.nd.sublist (List.take_sublist _ _)
  obtain ⟨dom, en, F, N, B⟩ := I
  have KI := ok.K.keeps F.keep
  refine callX_cells (binds := names.zip (args' ++ dfl')) ok.below F N ok.T.nolimit ok.frames ok.frame ok.kind (KI _ _ hlk) rfl (codeRec_of KI hcd) (by have := ok.depth; omega)
    (fun M A E Q q => (Looks.of_peek (M := M) KI (hbind args' hl' _)).here q) (kindsX (List.all_eq_true.mpr fun y hy => ?_)) K.cnd
    (fun g L' h₁ tk cells FG F' N' CA B' st hlt => ?_) K.co K.gen K.kind
  · have := hlocs y.1 (hin y hy)
    simp only [Bool.and_eq_true] at this
    exact this.1
  · let env' := envOfC qual scope L' f cdv
    let c' : Cx := { A := c.A.deeper env', A₀ := c.A, base := c.base, h₀ := g, outer := c.fenv :: c.outer, fenv := env' }
    have hck := CellsAre.keys CA
    have hge : ∀ p ∈ cellsFrom (L' + 1) scope.names [], L' + 1 ≤ p.2 := cellsFrom_ge _ _ _ _ (Nat.le_refl _) (fun p hp => by cases hp)
    have hnd2 := cellsFrom_nd scope.names (L' + 1) [] List.nodup_nil (fun p hp => by cases hp)
    have ok' : c'.Ok G n := ⟨B', ok.K.keeps st, ok.T.keeps st, Around.frames_deeper ok.frames, rfl, K.kind, rfl, rfl, ok.hh, by
      have := ok.depth; show c.A.depth + 1 + 3 * n < _; omega, by have := ok.units; show c.A.units + 3 + 16 * n + 200 < _; omega⟩
    have hko : ∀ x, env'.kindOf x = scope.names.lookup x := fun _ => rfl
    have vo : VmOk G env' L' (bindL env'.kindOf (names.zip (args' ++ dfl')) fun _ => none) cells (argVM G scope (names.zip (args ++ dfl))) := by
      intro x v hx
      unfold argVM at hx
      split at hx
      · rename_i u hu
        cases hx
        have e : args ++ dfl = (args' ++ dfl').map er := by rw [List.map_append, ea, hdf]
        rw [e] at hu
        obtain ⟨v', h1, h2⟩ := zip_map_er _ _ hu
        have hxn : x ∈ names := by
          have := lookup_key h1
          obtain ⟨y, hy, rfl⟩ := List.mem_map.mp this
          exact hin y hy
        have hlx := hlocs x hxn
        simp only [Bool.and_eq_true, Bool.or_eq_true, beq_iff_eq, Bool.not_eq_true'] at hlx
        refine ⟨hlx.2, v', h2, ?_⟩
        rcases hlx.1 with hq | hq
        · exact .loc hq rfl (bindL_in hnd hq h1)
        · obtain ⟨a, ha⟩ := Option.isSome_iff_exists.mp (cellsFrom_some scope.names (L' + 1) [] (.inl hq))
          obtain ⟨o, hm, hd⟩ := CellsAre.at_ CA ha
          refine .cell hq ha hm (hd.trans ?_)
          rw [bindC_in hnd (by show scope.names.lookup x ≠ _; rw [hq]; decide) h1]
      · exact gvm_ok rfl hx
    have co' : CellsOk env' cells := by
      refine ⟨fun x hx => ?_, fun x y a h1 h2 => snd_inj hnd2 (lookup_mem h1) (lookup_mem h2)⟩
      obtain ⟨a, ha⟩ := Option.isSome_iff_exists.mp (cellsFrom_some scope.names (L' + 1) [] (.inl hx))
      obtain ⟨o, hm, hd⟩ := CellsAre.at_ CA ha
      exact ⟨a, o, _, ha, hm, hd⟩
    have perm : (cells ++ (dom.flatMap en ++ ex)).Perm (dom.flatMap en ++ (cells ++ ex)) := by
      rw [← List.append_assoc, ← List.append_assoc]
      exact List.Perm.append_right _ List.perm_append_comm
    have I' : Inv G c' (bindL env'.kindOf (names.zip (args' ++ dfl')) fun _ => none) (cells ++ ex) σ h₁ := by
      refine ⟨dom, en, F', fun p hp => N' p (perm.mem_iff.mpr hp), ⟨?_, B.dnd, B.ent⟩⟩
      refine (List.Perm.nodup_iff (perm.map _)).mp ?_
      show (keys (cells ++ (dom.flatMap en ++ ex))).Nodup
      unfold keys at hck ⊢
      rw [List.map_append, hck]
      refine List.nodup_append.mpr ⟨hnd2, B.nd, fun a ha b hb e => ?_⟩
      subst e
      obtain ⟨p, hp, rfl⟩ := List.mem_map.mp ha
      obtain ⟨q, hq, e⟩ := List.mem_map.mp hb
      have h1 := hge p hp
      have h2 : q.1 < L' := hlt q hq
      have e : q.1 = p.2 := e
      rw [e] at h2
      exact absurd h2 (Nat.not_lt.mpr (Nat.le_of_succ_le h1))
    refine h c' _ cells ex _ _ _ ok' rfl vo co' I' fun fl vm' σ' m' cells' h' tk' p vo' co'' I'' => ?_
    obtain ⟨dom', en', F'', N'', B''⟩ := I''.drop
    refine ⟨L', m', _, F'', N'', fun F3 N3 => ?_⟩
    cases fl with
    | next => exact kk .none σ' h' tk' p ⟨dom', en', F3, N3, B''⟩
    | ret v => exact kk v σ' h' tk' p ⟨dom', en', F3, N3, B''⟩
    | brk => exact p.elim
    | cont => exact p.elim

theorem WCall.code (h : WCode G n f args σ P) : WCall G n (.ref f) args σ P := fun args' e c m ex s Q E ok I kk =>
  wpAny_call (h args' e c m ex s _ ok I fun v σ' h' tk p I' => kk v σ' h' tk p I')

/-- a class called -/
structure ClsK (G : GX) (C fI : Addr) : Prop where
  makes : makesIn G.K C = true
  init : findIn G.K (.ref C) "__init__" = some (some (.ref fI))
  fn : isFn G.K (.ref fI) = true
theorem cls_weight (C : Addr) (r : List Value) : (Code.builtin "type.__call__" ⟨.ref C :: r, []⟩).weight ≤ 2 ∧ (Code.builtin "type.__call__" ⟨.ref C :: r, []⟩).cUnits ≤ 4 ∧ (Code.builtin "type.__call__" ⟨.ref C :: r, []⟩).envs = [] := by
  refine ⟨?_, ?_, ?_⟩
  · have : (Code.builtin "type.__call__" ⟨.ref C :: r, []⟩).weight = 1 := by rfl
    omega
  · exact Nat.le_of_ble_eq_true rfl
  · rfl
theorem WCall.cls {C fI : Addr} (K : ClsK G C fI) (h : ∀ x, σ x = none → WCode G n fI (.ref x :: args) (upd σ x (.inst C [])) fun v σ' => v = .none ∧ P (.ref x) σ') : WCall G (n + 1) (.ref C) args σ P := by
  intro args' ea c m ex s Q E ok I kk
  obtain ⟨news, F, N, put⟩ := I.alloc
  refine call_cls F ok.K N K.makes K.init K.fn fun x dx h' F' N' hlt hdx => ?_
  have hlt' : ∀ p ∈ news, p.1 < x := fun p hp => Nat.lt_trans (hlt p hp) hdx
  obtain ⟨hx, I'⟩ := put x [(x, instObj C dx), (dx, dictOf [] 0)] (.inst C []) h' ⟨dx, [], 0, rfl, trivial⟩ (by simp [keys]; exact Nat.ne_of_gt hdx) (fun q hq p hp e => by
    simp only [keys, List.map_cons, List.map_nil, List.mem_cons, List.not_mem_nil, or_false] at hq
    rcases hq with rfl | rfl
    · exact Nat.lt_irrefl _ (e ▸ hlt' p hp)
    · exact Nat.lt_irrefl _ (e ▸ hlt p hp)) F' N'
  obtain ⟨w1, w2, w3⟩ := cls_weight C args'
  have ok' : ({ c with A := c.A.under (.builtin "type.__call__" ⟨.ref C :: args', []⟩) } : Cx).Ok G n := ⟨ok.below, ok.K, ok.T, by
    show (c.A.under _).frames = _; unfold Around.under; dsimp only; rw [w3, ok.frames]; simp [pushEnvs], ok.frame, ok.kind, ok.glob, ok.bi, ok.hh, by
    have := ok.depth; show c.A.depth + _ + 3 * n < _; omega, by have := ok.units; show c.A.units + _ + 16 * n + 200 < _; omega⟩
  refine h x hx (.ref x :: args') (by simp [ea]) _ m ex _ _ ok' I' fun v σ' h'' tk p I'' => ?_
  refine ⟨er_is_none p.1, kk (.ref x) σ' h'' tk p.2 I''⟩
end
-- MComp
/-- an object of the ledger beside becomes one of σ -/
theorem Inv.exTake {G : GX} {c : Cx} {m : Str → Option Value} {ex : Led} {σ : AH} {h : Heap} {D : Addr} {o : Obj} {ao : AO} (X : Inv G c m ((D, o) :: ex) σ h) (he : Ent G D ao [(D, o)]) : σ D = none ∧ Inv G c m ex (upd σ D ao) h := by
  obtain ⟨dom, en, F, N, B⟩ := X
  have nd := B.nd
  obtain ⟨n1, n2⟩ := nodup_pre (pre := dom.flatMap en) nd
  have hxn : σ D = none := by
    cases q : σ D with
    | none => rfl
    | some bo =>
      obtain ⟨q1, q2⟩ := B.ent D bo q
      obtain ⟨o', r', hr'⟩ := q2.key
      exact absurd rfl (n1 (D, o') (List.mem_flatMap.mpr ⟨D, q1, by rw [hr']; simp⟩))
  by_cases hd : D ∈ dom
  · obtain ⟨d1, d2, rfl⟩ := List.append_of_mem hd
    have dn := B.dnd
    have h1 : D ∉ d1 := fun hm => (List.nodup_append.mp dn).2.2 D hm D (by simp) rfl
    have h2 : D ∉ d2 := (List.nodup_cons.mp (List.nodup_append.mp dn).2.1).1
    have hl : (d1 ++ D :: d2).flatMap (fun b => if b = D then [(D, o)] else en b) ++ ex = d1.flatMap en ++ (D, o) :: (d2.flatMap en ++ ex) := by
      rw [List.flatMap_append, List.flatMap_cons, flatMap_upd h1, flatMap_upd h2, if_pos rfl]; simp
    have sub : (d1.flatMap en ++ (D, o) :: (d2.flatMap en ++ ex)).Perm ((D, o) :: (d1.flatMap en ++ (d2.flatMap en ++ ex))) := List.perm_middle
    have mem : ∀ p ∈ d1.flatMap en ++ (D, o) :: (d2.flatMap en ++ ex), p ∈ (d1 ++ D :: d2).flatMap en ++ (D, o) :: ex := by
      intro p hp
      simp only [List.flatMap_append, List.flatMap_cons, List.mem_append, List.mem_cons] at hp ⊢
      rcases hp with hp | hp | hp | hp
      · exact .inl (.inl hp)
      · exact .inr (.inl hp)
      · exact .inl (.inr (.inr hp))
      · exact .inr (.inr hp)
    have big : (keys (((d1.flatMap en ++ en D ++ d2.flatMap en) ++ (D, o) :: ex))).Nodup := by
      have := nd
      simpa [List.flatMap_append, List.flatMap_cons, List.append_assoc] using this
    refine ⟨hxn, d1 ++ D :: d2, fun b => if b = D then [(D, o)] else en b, F, by rw [hl]; exact fun p hp => N p (mem p hp), ⟨?_, dn, fun b bo hb => ?_⟩⟩
    · rw [hl]
      have p1 : ((d1.flatMap en ++ en D ++ d2.flatMap en) ++ (D, o) :: ex).Perm (en D ++ (d1.flatMap en ++ (D, o) :: (d2.flatMap en ++ ex))) := by
        have a1 : ((d1.flatMap en ++ en D ++ d2.flatMap en) ++ (D, o) :: ex).Perm ((D, o) :: ((d1.flatMap en ++ en D ++ d2.flatMap en) ++ ex)) := List.perm_middle
        have a2 : (en D ++ (d1.flatMap en ++ (D, o) :: (d2.flatMap en ++ ex))).Perm ((D, o) :: (en D ++ (d1.flatMap en ++ (d2.flatMap en ++ ex)))) := by
          have := (List.perm_middle (l₁ := en D ++ d1.flatMap en) (a := (D, o)) (l₂ := d2.flatMap en ++ ex))
          simpa using this
        refine a1.trans (List.Perm.trans ?_ a2.symm)
        refine List.Perm.cons _ ?_
        have : (d1.flatMap en ++ en D).Perm (en D ++ d1.flatMap en) := List.perm_append_comm
        have := this.append_right (d2.flatMap en ++ ex)
        simpa using this
      have := (List.Perm.nodup_iff (p1.map (·.1))).mp big
      rw [List.map_append] at this
      exact (List.nodup_append.mp this).2.1
    · by_cases e : b = D
      · subst e
        rw [upd_same] at hb; cases hb
        exact ⟨hd, by rw [if_pos rfl]; exact he⟩
      · rw [upd_ne _ _ e] at hb
        obtain ⟨q1, q2⟩ := B.ent b bo hb
        exact ⟨q1, by rw [if_neg e]; exact q2⟩
  · have hl : (D :: dom).flatMap (fun b => if b = D then [(D, o)] else en b) ++ ex = (D, o) :: (dom.flatMap en ++ ex) := by
      rw [List.flatMap_cons, flatMap_upd hd, if_pos rfl]; simp
    have perm : (dom.flatMap en ++ (D, o) :: ex).Perm ((D, o) :: (dom.flatMap en ++ ex)) := List.perm_middle
    refine ⟨hxn, D :: dom, fun b => if b = D then [(D, o)] else en b, F, by rw [hl]; exact fun p hp => N p (perm.mem_iff.mpr hp), ⟨?_, List.nodup_cons.mpr ⟨hd, B.dnd⟩, fun b bo hb => ?_⟩⟩
    · rw [hl]; exact (List.Perm.nodup_iff (perm.map _)).mp nd
    · by_cases e : b = D
      · subst e
        rw [upd_same] at hb; cases hb
        exact ⟨by simp, by rw [if_pos rfl]; exact he⟩
      · rw [upd_ne _ _ e] at hb
        obtain ⟨q1, q2⟩ := B.ent b bo hb
        exact ⟨by simp [q1], by rw [if_neg e]; exact q2⟩

def relS (cs sc : Scope) : Scope :=
  { cs with names := cs.names.map fun (n, k) => if (k == .free && sc.kind == .function && sc.names.lookup n == some .cell) then (n, .cell) else (n, k) }
def compVM (G : GX) (cs sc : Scope) (vm : VM) (x : Str) (v : Value) : VM := fun y => if y = x then some v else
  match (relS cs sc).names.lookup y with
  | some .cell => if sc.names.lookup y = some .cell then vm y else none
  | some .globalImplicit => gvm G (relS cs sc) y
  | _ => none
theorem compVM_hd {G cs sc vm x v} : compVM G cs sc vm x v x = some v := by simp [compVM]
theorem compVM_cell {G cs sc vm x v y u} (h : (((relS cs sc).names.lookup y == some .cell) && sc.names.lookup y == some .cell && !(y == x)) = true) (hv : vm y = some u) : compVM G cs sc vm x v y = some u := by
  simp only [Bool.and_eq_true, beq_iff_eq, Bool.not_eq_true', beq_eq_false_iff_ne] at h
  simp [compVM, h.2, h.1.1, h.1.2, hv]
theorem compVM_gl {G cs sc vm x v y u} (h : (((relS cs sc).names.lookup y == some .globalImplicit) && !(y == x)) = true) (hv : gvm G (relS cs sc) y = some u) : compVM G cs sc vm x v y = some u := by
  simp only [Bool.and_eq_true, beq_iff_eq, Bool.not_eq_true', beq_eq_false_iff_ne] at h
  simp [compVM, h.2, h.1, hv]

structure CompK (cs sc : Scope) (x : Str) (fr : List Str) : Prop where
  ok : (cs.names.all (fun p => p.2 != .cell && !(p.2 == .free && !(sc.names.lookup p.1 == some .cell && sc.kind == .function && fr.contains p.1))) && (match cs.kind with | .function => true | _ => false) &&
    cs.names.all (fun p => !(p.2 == .local) || cs.names.lookup p.1 == some .local) && cs.names.lookup x == some .local && !(x == ("__debug__" : Str))) = true

theorem closure_ok {env : Env} : ∀ {names : List (Str × NameKind)} (acc : List (Str × Addr)), (∀ p ∈ names, p.2 = .free → ∃ a, env.cells.lookup p.1 = some a) → (∀ y a, (y, a) ∈ acc → env.cells.lookup y = some a) →
    ∃ cl, (forIn names acc fun (x : Str × NameKind) cs => (do
      if x.2 == .free then
        let a ← cellOf env x.1
        pure (ForInStep.yield ((x.1, a) :: cs))
      else pure (ForInStep.yield cs) : Sem (ForInStep (List (Str × Addr))))) = pure cl ∧ (∀ y a, (y, a) ∈ cl → env.cells.lookup y = some a) ∧ ∀ y, ((y, NameKind.free) ∈ names ∨ ∃ a, (y, a) ∈ acc) → ∃ a, (y, a) ∈ cl
  | [], acc, _, ha => ⟨acc, rfl, ha, fun y h => h.elim (fun h => by cases h) id⟩
  | (y, k) :: r, acc, h, ha => by
    rw [List.forIn_cons]
    by_cases hk : (k == NameKind.free) = true
    · obtain ⟨a, e⟩ := h (y, k) (.head _) (beq_iff_eq.mp hk)
      obtain ⟨cl, h1, h2, h3⟩ := closure_ok (names := r) ((y, a) :: acc) (fun p hp => h p (.tail _ hp)) (fun z b hz => by
        rcases List.mem_cons.mp hz with e' | hz
        · cases e'; exact e
        · exact ha z b hz)
      refine ⟨cl, ?_, h2, fun z hz => h3 z ?_⟩
      · simp only [hk, if_true]
        unfold cellOf
        have e : env.cells.lookup y = some a := e
        rw [e]
        exact h1
      · rcases hz with hz | ⟨b, hz⟩
        · rcases List.mem_cons.mp hz with e' | hz
          · cases e'; exact .inr ⟨a, .head _⟩
          · exact .inl hz
        · exact .inr ⟨b, .tail _ hz⟩
    · obtain ⟨cl, h1, h2, h3⟩ := closure_ok (names := r) acc (fun p hp => h p (.tail _ hp)) ha
      refine ⟨cl, ?_, h2, fun z hz => h3 z ?_⟩
      · simp only [hk]
        exact h1
      · rcases hz with hz | hz
        · rcases List.mem_cons.mp hz with e' | hz
          · cases e'; exact absurd rfl hk
          · exact .inl hz
        · exact .inr hz

def WIfs (G : GX) (n : Nat) (sc : Scope) : List Expr → VM → AH → (Bool → AH → Prop) → Prop
  | [], _, σ, P => P true σ
  | [t], vm, σ, P => WT G n sc t vm σ P
  | _ :: _ :: _, _, _, _ => False

section
variable {G : GX} {n : Nat} {sc : Scope} {σ : AH} {vm : VM}

theorem WIfs.run {c : Cx} {env : Env} {m ex} {s : Shared} {ifs : List Expr} {P : Bool → AH → Prop} {Q : Bool → Shared → Prop} {E} (ok : c.Ok G n) (eo : EnvOk sc env) (vo : VmOk G env c.L m ex vm) (h : WIfs G n sc ifs vm σ P) (X : Inv G c m ex σ s.heap)
    (kk : ∀ b σ' h' tk, P b σ' → Inv G c m ex σ' h' → Q b { s with heap := h', toks := tk }) :
    wpAny (model G.prog G.w) c.A (forIn ifs true fun c r => if r = true then do let ok ← isTrue c env (eval c env); pure (ForInStep.yield ok) else pure (ForInStep.yield r)) Q E s := by
  match ifs, h with
  | [], h => exact wpAny_tests_nil (kk true σ s.heap s.toks h X)
  | [t], h => exact wpAny_tests_one (h c env m ex s Q E ok eo vo X kk)

/-- what the turns of a comprehension do -/
def CTurns (G : GX) (n : Nat) (cs : Scope) (ifs : List Expr) (vmc : Value → VM) (step : VM → AH → (AH → Prop) → Nat → Prop) (J : Nat → AH → Prop) (xs : List Value) : Prop :=
  ∀ k y σ, xs[k]? = some y → J k σ → WIfs G n cs ifs (vmc y) σ fun b σ' => if b then step (vmc y) σ' (J (k + 1)) k else J (k + 1) σ'

theorem comp_env {c : Cx} {env : Env} {m ex} {cs : Scope} {x : Str} {fr : List Str} {cl : List (Str × Addr)} {C : Addr} {oC : Obj} {mC : Str → Option Value} {v : Value} (eo : EnvOk sc env) (vo : VmOk G env c.L m ex vm) (ck : CompK cs sc x fr)
    (hcl : ∀ y a, (y, a) ∈ cl → env.cells.lookup y = some a) (hcl2 : ∀ y, (y, NameKind.free) ∈ cs.names → ∃ a, (y, a) ∈ cl) {ex' : Led} (hs : ∀ p ∈ ex, p ∈ ex') (hC : (C, oC) ∈ ex') (hN : LCg.NsObj oC mC) (hx : mC x = some v) :
    EnvOk (relS cs sc) (compEnvC cs cl C env) ∧ VmOk G (compEnvC cs cl C env) c.L m ex' (compVM G cs sc vm x (er v)) := by
  have hk := ck.ok
  simp only [Bool.and_eq_true, beq_iff_eq, Bool.not_eq_true'] at hk
  obtain ⟨⟨⟨⟨k1, k2⟩, k3⟩, k4⟩, k5⟩ := hk
  have hks : cs.kind = .function := by cases h : cs.kind <;> rw [h] at k2 <;> simp_all
  have hsc : (compEnvC cs cl C env).scope = relS cs sc := by rw [← eo.scope]; rfl
  refine ⟨⟨hsc, eo.glob, eo.bi, hks⟩, fun y u hy => ?_⟩
  unfold compVM at hy
  split at hy
  · rename_i e
    subst e
    cases hy
    exact ⟨k5, v, rfl, .comp (lookup_relabel_local k4) hC hN hx⟩
  · split at hy
    · rename_i hl
      split at hy
      · rename_i hsl
        obtain ⟨hd, v', e, r⟩ := vo y u hy
        have hkc : (compEnvC cs cl C env).kindOf y = some .cell := by unfold Env.kindOf; rw [hsc]; exact hl
        have hko : env.kindOf y = some .cell := by unfold Env.kindOf; rw [eo.scope]; exact hsl
        refine ⟨hd, v', e, ?_⟩
        -- the closure holds the same cell
        have hmem : (y, NameKind.free) ∈ cs.names := by
          have : (y, NameKind.cell) ∈ (relS cs sc).names := by
            have hl' := hl
            clear hkc hy
            generalize (relS cs sc).names = l at hl'
            induction l with
            | nil => cases hl'
            | cons p r ih =>
              obtain ⟨z, k⟩ := p
              rw [List.lookup_cons] at hl'
              split at hl'
              · rename_i q; cases hl'; rw [beq_iff_eq.mp q]; exact .head _
              · exact .tail _ (ih hl')
          obtain ⟨p, hp, e⟩ := List.mem_map.mp this
          obtain ⟨z, k⟩ := p
          dsimp only at e
          have hz := List.all_eq_true.mp k1 (z, k) hp
          split at e
          · rename_i q
            cases e
            simp only [Bool.and_eq_true, beq_iff_eq] at q
            rw [q.1.1] at hp; exact hp
          · cases e
            simp at hz
        obtain ⟨a, ha⟩ := hcl2 y hmem
        have hea := hcl y a ha
        have hla : cl.lookup y = some a := by
          cases q : cl.lookup y with
          | none =>
            have : ∀ (l : List (Str × Addr)), (y, a) ∈ l → l.lookup y ≠ none := by
              intro l hm
              induction l with
              | nil => cases hm
              | cons p r ih =>
                obtain ⟨z, b⟩ := p
                rw [List.lookup_cons]
                rcases List.mem_cons.mp hm with e | hm
                · cases e; simp
                · split
                  · simp
                  · exact ih hm
            exact absurd q (this cl ha)
          | some b =>
            have := hcl y b (lookup_mem q)
            rw [hea] at this; exact this.symm ▸ rfl
        cases r with
        | loc h1 => rw [hko] at h1; cases h1
        | cell h1 h2 h3 h4 => exact .cell hkc (hla.trans (hea.symm.trans h2)) (hs _ h3) h4
        | free h1 => rw [hko] at h1; cases h1
        | comp h1 => rw [hko] at h1; cases h1
        | glob h1 => rw [hko] at h1; cases h1
        | bi h1 => rw [hko] at h1; cases h1
      · cases hy
    · exact gvm_ok hsc hy
    · cases hy

inductive LCJ (G : GX) (c : Cx) (m : Str → Option Value) (ex : Led) (s₂ : Shared) (xs : List Value) (J : Nat → List Value → AH → Prop) (it : Nat → Led → Prop) (C D : Addr) (b : Nat) (s' : Shared) : Prop
  | mk (k : Nat) (σ' : AH) (oC : Obj) (mC : Str → Option Value) (its : Array Value) (nn : Nat) (l' : Led) (h' : Heap) (tk' : Nat) : s' = { s₂ with heap := h', toks := tk' } → k ≤ xs.length → b = xs.length - k → J k (its.toList.map er) σ' → its.size ≤ k → it k l' → LCg.NsObj oC mC →
        Inv G c m (l' ++ ((C, oC) :: (D, listOf its nn) :: ex)) σ' h' → LCJ G c m ex s₂ xs J it C D b s'
theorem listComp_core {c : Cx} {env : Env} {m ex} {cs : Scope} {x : Str} {px pos : Pos} {fr : List Str} {cl : List (Str × Addr)} {elt iter : Expr} {ifs : List Expr} {I : Addr} {xs : List Value} {okk : AH → Prop} {it : Nat → Led → Prop} {l : Led} {s₂ : Shared} {E : Value → Shared → Prop} {RR : Value → Addr → Result → Shared → Prop}
    (ok : c.Ok G n) (eo : EnvOk sc env) (vo : VmOk G env c.L m ex vm) (ck : CompK cs sc x fr)
    (hcl : ∀ y a, (y, a) ∈ cl → env.cells.lookup y = some a) (hcl2 : ∀ y, (y, NameKind.free) ∈ cs.names → ∃ a, (y, a) ∈ cl)
    (ii : IsIter G n I xs okk it) (i0 : it 0 l) (X : Inv G c m (l ++ ex) σ s₂.heap) (hz : xs.length ≤ 100000) (J : Nat → List Value → AH → Prop) (j0 : J 0 [] σ) (jok : ∀ k ys σ, J k ys σ → okk σ)
    (jstep : ∀ k y ys σ, xs[k]? = some y → J k ys σ → WIfs G n (relS cs sc) ifs (compVM G cs sc vm x y) σ fun b σ' => if b then WE G n (relS cs sc) elt (compVM G cs sc vm x y) σ' fun u σ'' => J (k + 1) (ys ++ [u]) σ'' else J (k + 1) ys σ')
    (hRR : ∀ D C oC mC ys σ' h' tk, J xs.length ys σ' → σ' D = none → C ≠ D → LCg.NsObj oC mC → Inv G c m ((C, oC) :: ex) (upd σ' D (.list ys)) h' → RR (.ref D) C (.ok .next) { s₂ with heap := h', toks := tk }) :
    wpAny (model G.prog G.w) c.A (newList []) (fun acc s₃ => wpAny (model G.prog G.w) c.A (newFunctionEnv cs env.globals cl [] env.qual none .none (some env)) (fun cenv s₄ =>
      codeAny (model G.prog G.w) c.A (.compStart (.ListComp elt [⟨.Name x px, iter, ifs, 0⟩] cs pos) 0 (.ref I) acc { cenv with scope := relabel cs env }) (RR acc cenv.locals) s₄) E s₃) E s₂ := by
  have hk := ck.ok
  simp only [Bool.and_eq_true, beq_iff_eq, Bool.not_eq_true'] at hk
  obtain ⟨⟨⟨⟨k1, k2⟩, k3⟩, k4⟩, k5⟩ := hk
  have hks : cs.kind = .function := by cases h : cs.kind <;> rw [h] at k2 <;> simp_all
  have hcell : ∀ y ∈ cs.names, y.2 ≠ .cell := fun y hy => by
    have := List.all_eq_true.mp k1 y hy
    simp only [Bool.and_eq_true, bne_iff_ne, ne_eq] at this
    exact this.1
  have X1 := X.exPush (o := { cls := .type "list", dict := none, data := .seq ([] : List Value).toArray }) rfl
  refine wpAny_newObj_type (wpAny_newFunctionEnv hcell (by intro y hy; simp at hy) (fun h₁ hns₁ hsb₁ => ?_) hks)
  dsimp only at hns₁ hsb₁ ⊢
  generalize hD : s₂.heap.objs.size = D at X1 hns₁ hsb₁ ⊢
  generalize hH : s₂.heap.push { cls := .type "list", dict := none, data := .seq ([] : List Value).toArray } = H at X1 hns₁ hsb₁ ⊢
  have X2 := X1.exPush (o := { cls := .type "dict", data := .dict #[] }) rfl
  generalize hC : H.objs.size = C at X2 hns₁ hsb₁ ⊢
  obtain ⟨oC, hoC, hNC⟩ := LCg.ns_obj hns₁
  have X3 := X2.exSet (e1 := []) hsb₁ hoC
  have hCD : C ≠ D := by rw [← hC, ← hD, ← hH, Heap.size_push]; exact Nat.succ_ne_self _
  have permI : ∀ (l : Led) (o1 oC : Obj), (l ++ ((C, oC) :: (D, o1) :: ex)).Perm ((C, oC) :: (D, o1) :: (l ++ ex)) := fun l o1 oC => by
    have a1 : (l ++ ((C, oC) :: (D, o1) :: ex)).Perm ((C, oC) :: (l ++ (D, o1) :: ex)) := List.perm_middle
    have a2 : (l ++ (D, o1) :: ex).Perm ((D, o1) :: (l ++ ex)) := List.perm_middle
    exact a1.trans (a2.cons _)
  have loop : ∀ s₃ : Shared, s₃ = { s₂ with heap := h₁, toks := s₂.toks + ([] : List (Str × Value)).length } →
      codeAny (model G.prog G.w) c.A (.compLoop (.ListComp elt [⟨.Name x px, iter, ifs, 0⟩] cs pos) 0 (.ref I) (.ref D) (compEnvC cs cl C env)) (RR (.ref D) C) s₃ := by
    rintro s₃ rfl
    refine codeAny_compLoop_tests
      (LCJ G c m ex s₂ xs J it C D) ?_ xs.length
      ⟨0, σ, oC, _, #[], 0, l, h₁, _, rfl, Nat.zero_le _, rfl, j0, Nat.le_refl _, i0, hNC, X3.perm (permI _ _ _).symm⟩
    rintro b s' ⟨k, σ', oC, mC, its, nn, l', h', tk', rfl, hle, rfl, hj, hits, hi, hN, X'⟩
    rcases Nat.lt_or_ge k xs.length with hlt | hge
    · have hx' : xs[k]? = some xs[k] := List.getElem?_eq_getElem hlt
      refine ii.item c m ((C, oC) :: (D, listOf its nn) :: ex) σ' _ _ _ k l' xs[k] ok (jok _ _ _ hj) hi hx' X' fun v l'' h'' tk'' ev hi' X'' => ?_
      dsimp only
      have gC := X''.exGet (I := C) (o := oC) (by simp)
      refine wpAny_assign_Name (wpAny_storeName_local (lookup_relabel_local k4) (hN.ns gC) (fun h₃ hn₃ hs₃ => ?_) (by simp [compEnvC, relabel, hks]))
      obtain ⟨oC', hoC', hN'⟩ := LCg.ns_obj hn₃
      have X4 := X''.exSet (e1 := l'') hs₃ hoC'
      obtain ⟨eo', vo'⟩ := comp_env (c := c) (m := m) (C := C) (oC := oC') (v := v) (ex' := l'' ++ ((C, oC') :: (D, listOf its nn) :: ex)) eo vo ck hcl hcl2 (fun p hp => by simp [hp]) (by simp) hN' (by simp)
      rw [ev] at vo'
      refine (jstep k xs[k] _ σ' hx' hj).run ok eo' vo' X4 fun bb σ5 h5 tk5 p5 X5 => ?_
      cases bb with
      | false =>
        exact ⟨xs.length - (k + 1), by omega, k + 1, σ5, oC', _, its, nn, l'', h5, tk5, rfl, hlt, rfl, p5, Nat.le_succ_of_le hits, hi', hN', X5⟩
      | true =>
        simp only [if_true] at p5 ⊢
        refine p5 c (compEnvC cs cl C env) m _ _ _ _ ok eo' vo' X5 fun u σ6 h6 tk6 p6 X6 => ?_
        have gD := X6.exGet (I := D) (o := listOf its nn) (by simp)
        refine append_at (hsz := sl_le (by omega)) gD fun h7 hs7 hg7 => ?_
        have X7 := Inv.exSet (e1 := l'' ++ [(C, oC')]) (e2 := ex) (o := listOf its nn) (by simpa using X6) hs7 hg7
        refine ⟨xs.length - (k + 1), by omega, k + 1, σ6, oC', _, its.push u, nn + 1, l'', h7, tk6, rfl, hlt, rfl, by simpa using p6, by simp; omega, hi', hN', by simpa using X7⟩
    · obtain rfl : k = xs.length := Nat.le_antisymm hle hge
      refine ii.done c m ((C, oC) :: (D, listOf its nn) :: ex) σ' _ _ _ l' ok (jok _ _ _ hj) hi X' fun h'' tk'' X'' => ?_
      have X8 : Inv G c m ((D, listOf its nn) :: (C, oC) :: ex) σ' h'' := X''.perm (List.Perm.swap _ _ _)
      obtain ⟨q1, q2⟩ := X8.exTake (ao := .list (its.toList.map er)) ⟨its, nn, rfl, rfl⟩
      exact hRR D C oC mC _ σ' h'' tk'' hj q1 hCD hN q2
  have X3' := X3.perm (permI l _ oC).symm
  exact codeAny_compStart_list (loop _ rfl) (ii.self c m _ σ _ _ _ 0 l i0 X3' (loop _ rfl))

theorem closure_of {c : Cx} {env : Env} {m ex} {cs : Scope} {x : Str} {fr : List Str} (eo : EnvOk sc env) (vo : VmOk G env c.L m ex vm) (ck : CompK cs sc x fr) (hfr : ∀ y ∈ fr, (vm y).isSome = true) :
    ∃ cl, closureFor cs env = pure cl ∧ (∀ y a, (y, a) ∈ cl → env.cells.lookup y = some a) ∧ ∀ y, (y, NameKind.free) ∈ cs.names → ∃ a, (y, a) ∈ cl := by
  have hk := ck.ok
  simp only [Bool.and_eq_true, beq_iff_eq, Bool.not_eq_true'] at hk
  obtain ⟨⟨⟨⟨k1, k2⟩, k3⟩, k4⟩, k5⟩ := hk
  obtain ⟨cl, h1, h2, h3⟩ := closure_ok (env := env) (names := cs.names) [] (fun p hp hf => by
    have := List.all_eq_true.mp k1 p hp
    simp only [hf, Bool.and_eq_true, Bool.not_eq_true', beq_self_eq_true, Bool.true_and, Bool.not_eq_false', beq_iff_eq] at this
    have hc := this.2.1.1
    obtain ⟨u, hu⟩ := Option.isSome_iff_exists.mp (hfr p.1 (by simpa using this.2.2))
    obtain ⟨hd, v', e, r⟩ := vo p.1 u hu
    have hko : env.kindOf p.1 = some .cell := by unfold Env.kindOf; rw [eo.scope]; exact hc
    cases r with
    | loc h1 => rw [hko] at h1; cases h1
    | cell h1 h2 h3 h4 => exact ⟨_, h2⟩
    | free h1 => rw [hko] at h1; cases h1
    | comp h1 => rw [hko] at h1; cases h1
    | glob h1 => rw [hko] at h1; cases h1
    | bi h1 => rw [hko] at h1; cases h1) (fun _ _ h => by cases h)
  refine ⟨cl, ?_, h2, fun y hy => h3 y (.inl hy)⟩
  unfold closureFor
  exact (congrArg (fun t : Sem (List (Str × Addr)) => t >>= fun r => pure r) h1).trans rfl

/-- [elt for x in iter if ..] -/
theorem WE.listComp {elt iter ifs cs x px pos P} (fr : List Str) (ck : CompK cs sc x fr) (hfr : ∀ y ∈ fr, (vm y).isSome = true)
    (h : WIt G n sc iter vm σ fun xs okk σ₁ => xs.length ≤ 100000 ∧ ∃ J : Nat → List Value → AH → Prop, J 0 [] σ₁ ∧ (∀ k ys σ, J k ys σ → okk σ) ∧
      (∀ k y ys σ, xs[k]? = some y → J k ys σ → WIfs G n (relS cs sc) ifs (compVM G cs sc vm x y) σ fun b σ' => if b then WE G n (relS cs sc) elt (compVM G cs sc vm x y) σ' fun u σ'' => J (k + 1) (ys ++ [u]) σ'' else J (k + 1) ys σ') ∧
      ∀ ys σ D, J xs.length ys σ → σ D = none → P (.ref D) (upd σ D (.list ys)))
    (hs : ∀ env x, foldedSetIterable iter env x = pure x := by intro _ _; rfl) : WE G n sc (.ListComp elt [⟨.Name x px, iter, ifs, 0⟩] cs pos) vm σ P := by
  intro c env m ex s Q E ok eo vo X kk
  obtain ⟨cl, hclos, hcl, hcl2⟩ := closure_of eo vo ck hfr
  have hk := ck.ok
  simp only [Bool.and_eq_true, beq_iff_eq, Bool.not_eq_true'] at hk
  obtain ⟨⟨⟨⟨k1, k2⟩, k3⟩, k4⟩, k5⟩ := hk
  have hks : cs.kind = .function := by cases h : cs.kind <;> rw [h] at k2 <;> simp_all
  rw [eval_ListComp]
  refine wpAny_comprehension_free rfl (hs env) hclos hks (fun y hy hl => by
    have := List.all_eq_true.mp k3 y hy
    simpa [hl] using this) (h c env m ex s _ E ok eo vo X fun I l xs okk it σ' h' tk ii i0 X' p => ?_)
  obtain ⟨hz, J, j0, jok, jstep, jdone⟩ := p
  refine listComp_core (RR := fun acc C => compPost (model G.prog G.w) c.A E none Q acc C) ok eo vo ck hcl hcl2 ii i0 X' hz J j0 jok jstep fun D C oC mC ys σ6 h6 tk6 hj hD hCD hN X6 => ?_
  refine ⟨mC, hN.ns (X6.exGet (I := C) (o := oC) (by simp)), fun h7 hs7 => ?_⟩
  exact kk (.ref D) _ h7 tk6 (jdone _ _ _ hj hD) (X6.exDrop hs7.extBut)
end
-- MComp2
section
variable {G : GX} {n : Nat} {sc : Scope} {σ : AH} {vm : VM}

inductive DCJ (G : GX) (c : Cx) (m : Str → Option Value) (ex : Led) (s₂ : Shared) (xs : List Value) (J : Nat → List (Int × Value) → AH → Prop) (it : Nat → Led → Prop) (C D : Addr) (b : Nat) (s' : Shared) : Prop
  | mk (k : Nat) (σ' : AH) (oC : Obj) (mC : Str → Option Value) (oD : Obj) (kv : List (Int × Value)) (l' : Led) (h' : Heap) (tk' : Nat) : s' = { s₂ with heap := h', toks := tk' } → k ≤ xs.length → b = xs.length - k → J k (kv.map fun p => (p.1, er p.2)) σ' → kv.length ≤ k → oD.IsDictOf (intKind G.prog G.w) kv → it k l' → LCg.NsObj oC mC →
        Inv G c m (l' ++ ((C, oC) :: (D, oD) :: ex)) σ' h' → DCJ G c m ex s₂ xs J it C D b s'
theorem dictComp_core {c : Cx} {env : Env} {m ex} {cs : Scope} {x : Str} {px pos : Pos} {fr : List Str} {cl : List (Str × Addr)} {kx vx iter : Expr} {ifs : List Expr} {I : Addr} {xs : List Value} {okk : AH → Prop} {it : Nat → Led → Prop} {l : Led} {s₂ : Shared} {E : Value → Shared → Prop} {RR : Value → Addr → Result → Shared → Prop}
    (ok : c.Ok G n) (eo : EnvOk sc env) (vo : VmOk G env c.L m ex vm) (ck : CompK cs sc x fr)
    (hcl : ∀ y a, (y, a) ∈ cl → env.cells.lookup y = some a) (hcl2 : ∀ y, (y, NameKind.free) ∈ cs.names → ∃ a, (y, a) ∈ cl)
    (ii : IsIter G n I xs okk it) (i0 : it 0 l) (X : Inv G c m (l ++ ex) σ s₂.heap) (hz : xs.length ≤ 100000) (J : Nat → List (Int × Value) → AH → Prop) (j0 : J 0 [] σ) (jok : ∀ k ys σ, J k ys σ → okk σ)
    (jstep : ∀ k y ys σ, xs[k]? = some y → J k ys σ → WIfs G n (relS cs sc) ifs (compVM G cs sc vm x y) σ fun b σ' => if b then WE G n (relS cs sc) kx (compVM G cs sc vm x y) σ' fun kv σ'' => ∃ i, kv = .int i 0 ∧ WE G n (relS cs sc) vx (compVM G cs sc vm x y) σ'' fun u σ₃ => J (k + 1) (stored ys i u) σ₃ else J (k + 1) ys σ')
    (hRR : ∀ D C oC mC ys σ' h' tk, J xs.length ys σ' → σ' D = none → C ≠ D → LCg.NsObj oC mC → Inv G c m ((C, oC) :: ex) (upd σ' D (.idict ys)) h' → RR (.ref D) C (.ok .next) { s₂ with heap := h', toks := tk }) :
    wpAny (model G.prog G.w) c.A newDict (fun acc s₃ => wpAny (model G.prog G.w) c.A (newFunctionEnv cs env.globals cl [] env.qual none .none (some env)) (fun cenv s₄ =>
      codeAny (model G.prog G.w) c.A (.compStart (.DictComp kx vx [⟨.Name x px, iter, ifs, 0⟩] cs pos) 0 (.ref I) acc { cenv with scope := relabel cs env }) (RR acc cenv.locals) s₄) E s₃) E s₂ := by
  have hk := ck.ok
  simp only [Bool.and_eq_true, beq_iff_eq, Bool.not_eq_true'] at hk
  obtain ⟨⟨⟨⟨k1, k2⟩, k3⟩, k4⟩, k5⟩ := hk
  have hks : cs.kind = .function := by cases h : cs.kind <;> rw [h] at k2 <;> simp_all
  have hcell : ∀ y ∈ cs.names, y.2 ≠ .cell := fun y hy => by
    have := List.all_eq_true.mp k1 y hy
    simp only [Bool.and_eq_true, bne_iff_ne, ne_eq] at this
    exact this.1
  have hd0 : ({ cls := .type "dict", dict := none, data := .dict #[] } : Obj).IsDictOf (intKind G.prog G.w) [] := by
    obtain ⟨o, ho, hd⟩ := Heap.dictOf_iff.mp (Heap.DictOf.new (knd := intKind G.prog G.w) s₂.heap)
    rw [Heap.get?_push_size _ rfl] at ho
    exact (Option.some.inj ho) ▸ hd
  have hlow : (s₂.heap.objs.size == sysModules) = false := by
    have h1 : sysModules < s₂.heap.objs.size := by
      have h2 := modules_low ok.T.nolimit
      exact Nat.lt_of_lt_of_le h2 (Nat.le_trans X.fr.above (Nat.le_of_lt X.fr.ns.lt))
    simpa using (Nat.ne_of_lt h1).symm
  have X1 := X.exPush (o := { cls := .type "dict", dict := none, data := .dict #[] }) rfl
  refine wpAny_newObj_type (wpAny_newFunctionEnv hcell (by intro y hy; simp at hy) (fun h₁ hns₁ hsb₁ => ?_) hks)
  dsimp only at hns₁ hsb₁ ⊢
  generalize hD : s₂.heap.objs.size = D at X1 hns₁ hsb₁ hlow ⊢
  generalize hH : s₂.heap.push { cls := .type "dict", dict := none, data := .dict #[] } = H at X1 hns₁ hsb₁ ⊢
  have X2 := X1.exPush (o := { cls := .type "dict", data := .dict #[] }) rfl
  generalize hC : H.objs.size = C at X2 hns₁ hsb₁ ⊢
  obtain ⟨oC, hoC, hNC⟩ := LCg.ns_obj hns₁
  have X3 := X2.exSet (e1 := []) hsb₁ hoC
  have hCD : C ≠ D := by rw [← hC, ← hD, ← hH, Heap.size_push]; exact Nat.succ_ne_self _
  have permI : ∀ (l : Led) (o1 oC : Obj), (l ++ ((C, oC) :: (D, o1) :: ex)).Perm ((C, oC) :: (D, o1) :: (l ++ ex)) := fun l o1 oC => by
    have a1 : (l ++ ((C, oC) :: (D, o1) :: ex)).Perm ((C, oC) :: (l ++ (D, o1) :: ex)) := List.perm_middle
    have a2 : (l ++ (D, o1) :: ex).Perm ((D, o1) :: (l ++ ex)) := List.perm_middle
    exact a1.trans (a2.cons _)
  have loop : ∀ s₃ : Shared, s₃ = { s₂ with heap := h₁, toks := s₂.toks + ([] : List (Str × Value)).length } →
      codeAny (model G.prog G.w) c.A (.compLoop (.DictComp kx vx [⟨.Name x px, iter, ifs, 0⟩] cs pos) 0 (.ref I) (.ref D) (compEnvC cs cl C env)) (RR (.ref D) C) s₃ := by
    rintro s₃ rfl
    refine codeAny_compLoop_testsD
      (DCJ G c m ex s₂ xs J it C D) ?_ xs.length
      ⟨0, σ, oC, _, _, [], l, h₁, _, rfl, Nat.zero_le _, rfl, j0, Nat.le_refl _, hd0, i0, hNC, X3.perm (permI _ _ _).symm⟩
    rintro b s' ⟨k, σ', oC, mC, oD, kv, l', h', tk', rfl, hle, rfl, hj, hits, hDD, hi, hN, X'⟩
    rcases Nat.lt_or_ge k xs.length with hlt | hge
    · have hx' : xs[k]? = some xs[k] := List.getElem?_eq_getElem hlt
      refine ii.item c m ((C, oC) :: (D, oD) :: ex) σ' _ _ _ k l' xs[k] ok (jok _ _ _ hj) hi hx' X' fun v l'' h'' tk'' ev hi' X'' => ?_
      dsimp only
      have gC := X''.exGet (I := C) (o := oC) (by simp)
      refine wpAny_assign_Name (wpAny_storeName_local (lookup_relabel_local k4) (hN.ns gC) (fun h₃ hn₃ hs₃ => ?_) (by simp [compEnvC, relabel, hks]))
      obtain ⟨oC', hoC', hN'⟩ := LCg.ns_obj hn₃
      have X4 := X''.exSet (e1 := l'') hs₃ hoC'
      obtain ⟨eo', vo'⟩ := comp_env (c := c) (m := m) (C := C) (oC := oC') (v := v) (ex' := l'' ++ ((C, oC') :: (D, oD) :: ex)) eo vo ck hcl hcl2 (fun p hp => by simp [hp]) (by simp) hN' (by simp)
      rw [ev] at vo'
      refine (jstep k xs[k] _ σ' hx' hj).run ok eo' vo' X4 fun bb σ5 h5 tk5 p5 X5 => ?_
      cases bb with
      | false =>
        exact ⟨xs.length - (k + 1), by omega, k + 1, σ5, oC', _, oD, kv, l'', h5, tk5, rfl, hlt, rfl, p5, Nat.le_succ_of_le hits, hDD, hi', hN', X5⟩
      | true =>
        simp only [if_true] at p5 ⊢
        refine p5 c (compEnvC cs cl C env) m _ _ _ _ ok eo' vo' X5 fun u σ6 h6 tk6 p6 X6 => ?_
        obtain ⟨i, ei, p6⟩ := p6
        obtain ⟨ti, rfl⟩ := er_is_int ei
        refine p6 c (compEnvC cs cl C env) m _ _ _ _ ok eo' vo' X6 fun uv σ8 h8 tk8 p8 X8 => ?_
        have gD := X8.exGet (I := D) (o := oD) (by simp)
        refine wpAny_dictSet_pairs (knd := intKind G.prog G.w) (k := i) (hsz := sl_le (by omega)) (by simp [intKind, Value.isInt]) (Heap.dictOf_iff.mpr ⟨oD, gD, hDD⟩) fun h7 hd7 hs7 => ?_
        obtain ⟨oD', hoD', hDD'⟩ := Heap.dictOf_iff.mp hd7
        have X7 := Inv.exSet (e1 := l'' ++ [(C, oC')]) (e2 := ex) (o := oD) (by simpa using X8) hs7 hoD'
        refine ⟨xs.length - (k + 1), by omega, k + 1, σ8, oC', _, oD', stored kv i uv, l'', h7, _, rfl, hlt, rfl, by rw [stored_map]; exact p8, ?_, hDD', hi', hN', by simpa using X7⟩
        have := stored_length_le kv i uv
        omega
    · obtain rfl : k = xs.length := Nat.le_antisymm hle hge
      refine ii.done c m ((C, oC) :: (D, oD) :: ex) σ' _ _ _ l' ok (jok _ _ _ hj) hi X' fun h'' tk'' X'' => ?_
      have X8 : Inv G c m ((D, oD) :: (C, oC) :: ex) σ' h'' := X''.perm (List.Perm.swap _ _ _)
      obtain ⟨q1, q2⟩ := X8.exTake (ao := .idict (kv.map fun p => (p.1, er p.2))) ⟨oD, kv, rfl, hDD, rfl, hlow⟩
      exact hRR D C oC mC _ σ' h'' tk'' hj q1 hCD hN q2
  have X3' := X3.perm (permI l _ oC).symm
  exact codeAny_compStart_dict (loop _ rfl) (ii.self c m _ σ _ _ _ 0 l i0 X3' (loop _ rfl))

/-- {kx: vx for x in iter if ..}, the keys ints -/
theorem WE.dictComp {kx vx iter ifs cs x px pos P} (fr : List Str) (ck : CompK cs sc x fr) (hfr : ∀ y ∈ fr, (vm y).isSome = true)
    (h : WIt G n sc iter vm σ fun xs okk σ₁ => xs.length ≤ 100000 ∧ ∃ J : Nat → List (Int × Value) → AH → Prop, J 0 [] σ₁ ∧ (∀ k ys σ, J k ys σ → okk σ) ∧
      (∀ k y ys σ, xs[k]? = some y → J k ys σ → WIfs G n (relS cs sc) ifs (compVM G cs sc vm x y) σ fun b σ' => if b then WE G n (relS cs sc) kx (compVM G cs sc vm x y) σ' fun kv σ'' => ∃ i, kv = .int i 0 ∧ WE G n (relS cs sc) vx (compVM G cs sc vm x y) σ'' fun u σ₃ => J (k + 1) (stored ys i u) σ₃ else J (k + 1) ys σ') ∧
      ∀ ys σ D, J xs.length ys σ → σ D = none → P (.ref D) (upd σ D (.idict ys)))
    (hs : ∀ env x, foldedSetIterable iter env x = pure x := by intro _ _; rfl) : WE G n sc (.DictComp kx vx [⟨.Name x px, iter, ifs, 0⟩] cs pos) vm σ P := by
  intro c env m ex s Q E ok eo vo X kk
  obtain ⟨cl, hclos, hcl, hcl2⟩ := closure_of eo vo ck hfr
  have hk := ck.ok
  simp only [Bool.and_eq_true, beq_iff_eq, Bool.not_eq_true'] at hk
  obtain ⟨⟨⟨⟨k1, k2⟩, k3⟩, k4⟩, k5⟩ := hk
  have hks : cs.kind = .function := by cases h : cs.kind <;> rw [h] at k2 <;> simp_all
  show wpAny _ _ (comprehension _ cs env _ newDict _ _) _ _ _
  refine wpAny_comprehension_free rfl (hs env) hclos hks (fun y hy hl => by
    have := List.all_eq_true.mp k3 y hy
    simpa [hl] using this) (h c env m ex s _ E ok eo vo X fun I l xs okk it σ' h' tk ii i0 X' p => ?_)
  obtain ⟨hz, J, j0, jok, jstep, jdone⟩ := p
  refine dictComp_core (RR := fun acc C => compPost (model G.prog G.w) c.A E none Q acc C) ok eo vo ck hcl hcl2 ii i0 X' hz J j0 jok jstep fun D C oC mC ys σ6 h6 tk6 hj hD hCD hN X6 => ?_
  refine ⟨mC, hN.ns (X6.exGet (I := C) (o := oC) (by simp)), fun h7 hs7 => ?_⟩
  exact kk (.ref D) _ h7 tk6 (jdone _ _ _ hj hD) (X6.exDrop hs7.extBut)

end
-- MMisc
theorem pick_to (items : Array Value) (b : Nat) (hb : b ≤ items.size) : slicePick items none (some b) none = (items.toList.take b).toArray := by
  have e : sliceBounds none (some (b : Int)) none items.size = (((0 : Nat) : Int), (b : Int), 1) := by
    simp only [sliceBounds, Option.getD_none, show (1 : Int) > 0 by decide, if_true, if_neg (show ¬ ((b : Int) < 0) by omega)]
    congr 1
    congr 1
    omega
  rw [kmk_pick_nat _ e]; simp

def clsMeth (K : Frag) (C f : Addr) (name : Str) : Bool :=
  (specialIn K (.ref C) "__getattribute__" == some (some (.builtin "type.__getattribute__"))) && readsIn K C (.type "type") && (match findCls K (.ref C) (.type "type") name with | some (.val v) => v == .ref f | _ => false) && keepIn K (.ref f)

section
variable {G : GX} {n : Nat} {sc : Scope} {σ : AH} {vm : VM} {P : Value → AH → Prop}

theorem newList_arr {c : Cx} {m ex} {h h' : Heap} {D : Addr} {vs : Array Value} {k : Nat} {news : Led} (F' : Fr c.h₀ c.L h' m) (N' : News c.h₀ c.L h' ((D, listOf vs k) :: news)) (hlt : ∀ p ∈ news, p.1 < D)
    (put : ∀ x ents ao h', Ent G x ao ents → (keys ents).Nodup → (∀ q ∈ keys ents, ∀ p ∈ news, q ≠ p.1) → Fr c.h₀ c.L h' m → News c.h₀ c.L h' (ents ++ news) → σ x = none ∧ Inv G c m ex (upd σ x ao) h') :
    σ D = none ∧ Inv G c m ex (upd σ D (.list (vs.toList.map er))) h' :=
  put D [(D, listOf vs k)] _ h' ⟨vs, k, rfl, rfl⟩ (by simp [keys]) (fun q hq p hp => by simp [keys] at hq; subst hq; exact Nat.ne_of_gt (hlt p hp)) F' N'

/-- xs[k:] and xs[:k] -/
theorem WE.sliceFrom {value e p pos} (h : WE G n sc value vm σ fun o σ₁ => WE G n sc e vm σ₁ fun i σ₂ => ∃ a xs k t, o = .ref a ∧ i = .int ((k : Nat) : Int) t ∧ σ₂ a = some (.list xs) ∧ k ≤ xs.length ∧ xs.length ≤ 100000 ∧ ∀ D, σ₂ D = none → P (.ref D) (upd σ₂ D (.list (xs.drop k))))
    (ht : ∀ l r, letTemporaryGo value (.ref l) r = pure () := by intro _ _; rfl) : WE G n sc (.Subscript value (.Slice (some e) none none p) pos) vm σ P :=
  fun c env m ex s Q E ok eo vo X kk => PyProof.Rows.Subscript_ (h c env m ex s _ E ok eo vo X fun o σ₁ h₁ tk₁ p₁ I₁ => by
    refine wpAny_Slice ?_
    rw [evalPart_some]
    refine p₁ c env m ex _ _ E ok eo vo I₁ fun i σ₂ h₂ tk₂ p₂ I₂ => ?_
    obtain ⟨a, xs, k, t, e1, e2, ha, hk, hz, p⟩ := p₂
    rw [er_is_ref e1]
    obtain ⟨t', rfl⟩ := er_is_int e2
    rw [evalPart_none]
    refine wpAny_pure (wpAny_pure ?_)
    obtain ⟨vs, q, hv, ev⟩ := I₂.list ha
    have hs := map_size ev
    obtain ⟨news, F, N, put⟩ := I₂.alloc
    refine kmk_slice (s := { s with heap := h₂, toks := tk₂ }) F N (isList_of hv) (IsPart.int _ _) IsPart.none (fun D h' F' N' hlt => ?_) (by with_unfolding_all rfl) (ht a) (by rw [hs]; exact sl_le (by omega))
    rw [slicePick_from _ _ (by rw [hs]; exact hk)] at N'
    have z := newList_arr (h := h₂) F' N' hlt put
    have e3 : ((vs.toList.drop k).toArray.toList.map er) = xs.drop k := by rw [← ev, List.toList_toArray, List.map_drop]
    rw [e3] at z
    exact kk _ _ h' tk₂ (p D z.1) z.2)
theorem WE.sliceTo {value e p pos} (h : WE G n sc value vm σ fun o σ₁ => WE G n sc e vm σ₁ fun i σ₂ => ∃ a xs k t, o = .ref a ∧ i = .int ((k : Nat) : Int) t ∧ σ₂ a = some (.list xs) ∧ k ≤ xs.length ∧ xs.length ≤ 100000 ∧ ∀ D, σ₂ D = none → P (.ref D) (upd σ₂ D (.list (xs.take k))))
    (ht : ∀ l r, letTemporaryGo value (.ref l) r = pure () := by intro _ _; rfl) : WE G n sc (.Subscript value (.Slice none (some e) none p) pos) vm σ P :=
  fun c env m ex s Q E ok eo vo X kk => PyProof.Rows.Subscript_ (h c env m ex s _ E ok eo vo X fun o σ₁ h₁ tk₁ p₁ I₁ => by
    refine wpAny_Slice ?_
    rw [evalPart_none]
    refine wpAny_pure ?_
    rw [evalPart_some]
    refine p₁ c env m ex _ _ E ok eo vo I₁ fun i σ₂ h₂ tk₂ p₂ I₂ => ?_
    obtain ⟨a, xs, k, t, e1, e2, ha, hk, hz, p⟩ := p₂
    rw [er_is_ref e1]
    obtain ⟨t', rfl⟩ := er_is_int e2
    refine wpAny_pure ?_
    obtain ⟨vs, q, hv, ev⟩ := I₂.list ha
    have hs := map_size ev
    obtain ⟨news, F, N, put⟩ := I₂.alloc
    refine kmk_slice (s := { s with heap := h₂, toks := tk₂ }) F N (isList_of hv) IsPart.none (IsPart.int _ _) (fun D h' F' N' hlt => ?_) (by with_unfolding_all rfl) (ht a) (by rw [hs]; exact sl_le (by omega))
    rw [pick_to _ _ (by rw [hs]; exact hk)] at N'
    have z := newList_arr (h := h₂) F' N' hlt put
    have e3 : ((vs.toList.take k).toArray.toList.map er) = xs.take k := by rw [← ev, List.toList_toArray, List.map_take]
    rw [e3] at z
    exact kk _ _ h' tk₂ (p D z.1) z.2)
/-- list(d) -/
theorem WCall.listDict {a kvs} (ha : σ a = some (.sdict kvs)) (hz : kvs.length ≤ 100000) (h : ∀ D, σ D = none → P (.ref D) (upd σ D (.list (kvs.map fun p => .str p.1 0)))) : WCall G n (.type "list") [.ref a] σ P := by
  intro l e c m ex s Q E ok I kk
  obtain ⟨v, rfl, e1⟩ := args1 e
  rw [er_is_ref e1]
  obtain ⟨kv, hd, rfl, lo⟩ := I.sdict ha
  obtain ⟨ep, hat⟩ := hd.dictAt
  obtain ⟨news, F, N, put⟩ := I.alloc
  refine kdl_N (kdl_dict (knd := PySem.strKind G.prog G.w) (kvs := kv) (ep := ep) lo) ok.hh F N hat (sl_le (by simpa using Nat.le_trans (by simpa using hz) (Nat.le_add_right 100000 100000))) fun D cc h' tk vs F' N' hlt hl hP => ?_
  have z := newList_arr (h := s.heap) F' N' hlt put
  have e3 : vs.toArray.toList.map er = (kv.map fun p => (p.1, er p.2)).map fun p => .str p.1 0 := by
    rw [List.toList_toArray]
    refine List.ext_getElem (by simpa using hl) fun i h1 h2 => ?_
    simp only [List.getElem_map]
    have hi : i < vs.length := by simpa using h1
    obtain ⟨k, x, e4, e5⟩ := hP i vs[i] (List.getElem?_eq_getElem hi)
    obtain ⟨hi', e4⟩ := List.getElem?_eq_some_iff.mp e4
    obtain ⟨t, e6⟩ : ∃ t, vs[i] = .str k t := by
      generalize vs[i] = v at e5
      clear z put N' F' hat hd hP kk h
      have e5 : Value.isStrOf k v = true := e5
      cases v <;> simp_all [Value.isStrOf]
    rw [e6, e4]; rfl
  rw [e3] at z
  exact kk _ _ h' tk (h D z.1) z.2
/-- C.name(..), C a class of the row: the function itself -/
theorem WE.clsMeth {o name apos args pos} {C f : Addr} (h : WE G n sc o vm σ fun ov σ₁ => ov = .ref C ∧ clsMeth G.K C f name = true ∧ WArgs G n sc vm args σ₁ fun vs σ₂ => WCall G n (.ref f) vs σ₂ P)
    (hn : noStar args = true := by rfl)
    (he : ∀ env, ∃ pl, eval (.Call (.Attribute o name apos) args [] pos) env = (do
      let ov ← eval o env
      standAt apos.atName
      let (f, first) ← holding [ov] (getMethod ov name pl)
      callWith pos f first (backTo pos (starEach args env)) []) := by intro _; exact ⟨_, rfl⟩) : WE G n sc (.Call (.Attribute o name apos) args [] pos) vm σ P := by
  intro c env m ex s Q E ok eo vo I kk
  obtain ⟨pl, he⟩ := he env
  refine MethodCall_ (pl := pl) (h c env m ex s _ E ok eo vo I fun ov σ₁ h₁ tk₁ p I₁ => ?_) he
  obtain ⟨e, hm, p⟩ := p
  rw [er_is_ref e]
  unfold Mine.clsMeth at hm
  simp only [Bool.and_eq_true, beq_iff_eq] at hm
  obtain ⟨⟨⟨r1, r2⟩, r3⟩, r4⟩ := hm
  split at r3
  · rename_i v hv
    rw [beq_iff_eq.mp r3] at hv
    refine method_cls (Q := fun fx s₂ => wpAny (model G.prog G.w) c.A (callWith pos fx.1 fx.2 (backTo pos (starEach args env)) []) Q E s₂) (I₁.KIn ok) r1 (cls_value (I₁.KIn ok) r2 hv rfl ?_)
    exact callWith_W ok eo vo hn (f := .ref f) r4 (first := []) (by simpa using p) I₁ fun v σ' h' tk p' I' => kk v σ' h' tk p' I'
  · cases r3
theorem WE.neg {e pos i t} (h : WE G n sc e vm σ fun v σ' => v = .int i t ∧ P (.int (-i) 0) σ') : WE G n sc (.UnaryOp .USub e pos) vm σ P :=
  WE.unary (h.mono fun v σ₁ p v' e c m ex s Q E ok I kk => by
    rw [p.1] at e
    obtain ⟨t', rfl⟩ := er_is_int e
    exact PyProof.Rows.neg_int (kk (.int (-i) _) σ₁ s.heap _ p.2 I))
end
-- MBase
structure XX where
  w : World
  p : Program
  loose : List Str
  mean : ExcName → Option Value
  mg : Str → Option Value
  mb : Str → Option Value
noncomputable def gx (x : XX) : GX := { prog := PySem.Challenge.rw_pq0492_01.row.prog, w := x.w, K := KF x.w.params, p := x.p, loose := x.loose, mean := x.mean, mg := x.mg, mb := x.mb }
def bodyOf (K : Frag) (f : Addr) : List Stmt := match K.lookup f with
  | some ⟨_, _, .func fd, _⟩ => (match fd.body with | .stmts b => b | _ => [])
  | _ => []
def scopeD : Scope := { kind := .function, names := [], isGenerator := false, isCoroutine := false }
def scopeOf (K : Frag) (f : Addr) : Scope := match K.lookup f with
  | some ⟨_, _, .func fd, _⟩ => fd.scope
  | _ => scopeD
noncomputable abbrev bf (x : XX) (f : Addr) : List Stmt := bodyOf (gx x).K f
noncomputable abbrev sf (x : XX) (f : Addr) : Scope := scopeOf (gx x).K f

def isG (sc : Scope) (y : Str) : Bool := sc.names.lookup y == some .globalImplicit && !(y == ("__debug__" : Str))
theorem gvm_of {G : GX} {sc : Scope} {y : Str} {v : Value} (h : isG sc y = true) (hv : nsIn G.K mainGlobals y = some (some v)) : gvm G sc y = some (er v) := by
  simp only [isG, Bool.and_eq_true, beq_iff_eq, Bool.not_eq_true'] at h
  unfold gvm
  rw [if_pos ⟨h.1, by simpa using h.2⟩, hv]
theorem gvm_bi {G : GX} {sc : Scope} {y : Str} {v : Value} (h : isG sc y = true) (hv : nsIn G.K mainGlobals y = some none) (hb : bootBuiltins y = some v) (hn : y ≠ "__name__") : gvm G sc y = some (er v) := by
  simp only [isG, Bool.and_eq_true, beq_iff_eq, Bool.not_eq_true'] at h
  unfold gvm
  rw [if_pos ⟨h.1, by simpa using h.2⟩, hv]
  simp only [if_neg hn, hb]; rfl
theorem argVM_hd {G sc x v r} : argVM G sc ((x, v) :: r) x = some v := by simp [argVM]
theorem argVM_tl {G sc x v r y u} (hn : (y == x) = false) (h : argVM G sc r y = some u) : argVM G sc ((x, v) :: r) y = some u := by
  unfold argVM at h ⊢; rw [List.lookup_cons, hn]; exact h
theorem argVM_nil {G sc y u} (h : gvm G sc y = some u) : argVM G sc [] y = some u := h
theorem VM.hd {vm : VM} {x v} : (vm.set x v) x = some v := by simp [VM.set]
theorem VM.tl {vm : VM} {x v y u} (hn : (y == x) = false) (h : vm y = some u) : (vm.set x v) y = some u := by
  have : y ≠ x := by intro e; rw [e] at hn; simp at hn
  simp [VM.set, this, h]
section
variable {x : XX} {sc : Scope}
end
section
variable {x : XX}
theorem el_1 {P : List Value → Prop} {vs : List Value} (h : vs.length = 1) (H : ∀ v, P [v]) : P vs := by
  cases vs with
  | nil => cases h
  | cons v r => cases List.length_eq_zero_iff.mp (Nat.succ.inj h); exact H v
theorem el_2 {P : List Value → Prop} {vs : List Value} (h : vs.length = 2) (H : ∀ v0 v1, P [v0, v1]) : P vs := by
  cases vs with
  | nil => cases h
  | cons v r => exact el_1 (P := fun l => P (v :: l)) (Nat.succ.inj h) (H v)
theorem el_3 {P : List Value → Prop} {vs : List Value} (h : vs.length = 3) (H : ∀ v0 v1 v2, P [v0, v1, v2]) : P vs := by
  cases vs with
  | nil => cases h
  | cons v r => exact el_2 (P := fun l => P (v :: l)) (Nat.succ.inj h) (H v)
theorem el_4 {P : List Value → Prop} {vs : List Value} (h : vs.length = 4) (H : ∀ v0 v1 v2 v3, P [v0, v1, v2, v3]) : P vs := by
  cases vs with
  | nil => cases h
  | cons v r => exact el_3 (P := fun l => P (v :: l)) (Nat.succ.inj h) (H v)
theorem el_5 {P : List Value → Prop} {vs : List Value} (h : vs.length = 5) (H : ∀ v0 v1 v2 v3 v4, P [v0, v1, v2, v3, v4]) : P vs := by
  cases vs with
  | nil => cases h
  | cons v r => exact el_4 (P := fun l => P (v :: l)) (Nat.succ.inj h) (H v)
theorem el_6 {P : List Value → Prop} {vs : List Value} (h : vs.length = 6) (H : ∀ v0 v1 v2 v3 v4 v5, P [v0, v1, v2, v3, v4, v5]) : P vs := by
  cases vs with
  | nil => cases h
  | cons v r => exact el_5 (P := fun l => P (v :: l)) (Nat.succ.inj h) (H v)
theorem el_7 {P : List Value → Prop} {vs : List Value} (h : vs.length = 7) (H : ∀ v0 v1 v2 v3 v4 v5 v6, P [v0, v1, v2, v3, v4, v5, v6]) : P vs := by
  cases vs with
  | nil => cases h
  | cons v r => exact el_6 (P := fun l => P (v :: l)) (Nat.succ.inj h) (H v)
theorem fn_of {G : GX} {f : Addr} {k : Nat} {names : List Str} {dfl dfl' : List Value} {scope : Scope} {body : List Stmt} {name qual params oc dV kV doc pm cdv ct an od osl}
    (h1 : G.K.lookup f = some ⟨oc, od, .func (fnOf name qual params body scope dV kV doc pm an cdv ct), osl⟩) (h2 : codeIn G.K cdv qual = true) (h3 : dfl'.map er = dfl)
    (h4 : ∀ vs : List Value, vs.length = k → ∀ S, peek G.K S (bindArgs (fnOf name qual params body scope dV kV doc pm an cdv ct) ⟨vs, []⟩) = some (names.zip (vs ++ dfl')))
    (h5 : (names.all (fun y => (scope.names.lookup y == some .local || scope.names.lookup y == some .cell) && !(y == ("__debug__" : Str))) && decide names.Nodup && decide ((cellsFrom 0 scope.names []).map (·.1)).Nodup && !scope.isCoroutine && !scope.isGenerator && (match scope.kind with | .function => true | _ => false)) = true) :
    FnK G f k names dfl scope body := by
  simp only [Bool.and_eq_true, decide_eq_true_eq, Bool.not_eq_true'] at h5
  obtain ⟨⟨⟨⟨⟨p1, p2⟩, p3⟩, p4⟩, p5⟩, p6⟩ := h5
  refine ⟨⟨_, _, _, _, _, _, _, _, _, _, _, _, _, h1, h2, dfl', h3, h4⟩, ?_, p2, p3, p4, p5, ?_⟩
  · exact p1
  · cases h : scope.kind <;> rw [h] at p6 <;> simp_all
theorem fk_37_3 : FnK (gx x) 37 3 [Str.ofString "self", Str.ofString "number", Str.ofString "owner"] [] (sf x 37) (bf x 37) := by
  refine fn_of (by with_unfolding_all exact rfl) (by kernel_rfl) (dfl' := []) (by kernel_rfl) (fun vs h0 S => ?_) (by kernel_rfl)
  exact el_3 (P := fun vs => peek (gx x).K S (bindArgs _ ⟨vs, []⟩) = some (List.zip _ (vs ++ _))) h0 fun v0 v1 v2 => by kernel_rfl
theorem fk_218_5 : FnK (gx x) 218 5 [Str.ofString "self", Str.ofString "number", Str.ofString "owner", Str.ofString "name", Str.ofString "is_class", Str.ofString "parent", Str.ofString "outer"] [.none, .none] (sf x 218) (bf x 218) := by
  refine fn_of (by with_unfolding_all exact rfl) (by kernel_rfl) (dfl' := [.none, .none]) (by kernel_rfl) (fun vs h0 S => ?_) (by kernel_rfl)
  exact el_5 (P := fun vs => peek (gx x).K S (bindArgs _ ⟨vs, []⟩) = some (List.zip _ (vs ++ _))) h0 fun v0 v1 v2 v3 v4 => by kernel_rfl
theorem fk_218_7 : FnK (gx x) 218 7 [Str.ofString "self", Str.ofString "number", Str.ofString "owner", Str.ofString "name", Str.ofString "is_class", Str.ofString "parent", Str.ofString "outer"] [] (sf x 218) (bf x 218) := by
  refine fn_of (by with_unfolding_all exact rfl) (by kernel_rfl) (dfl' := []) (by kernel_rfl) (fun vs h0 S => ?_) (by kernel_rfl)
  exact el_7 (P := fun vs => peek (gx x).K S (bindArgs _ ⟨vs, []⟩) = some (List.zip _ (vs ++ _))) h0 fun v0 v1 v2 v3 v4 v5 v6 => by kernel_rfl
theorem fk_225_1 : FnK (gx x) 225 1 [Str.ofString "self"] [] (sf x 225) (bf x 225) := by
  refine fn_of (by with_unfolding_all exact rfl) (by kernel_rfl) (dfl' := []) (by kernel_rfl) (fun vs h0 S => ?_) (by kernel_rfl)
  exact el_1 (P := fun vs => peek (gx x).K S (bindArgs _ ⟨vs, []⟩) = some (List.zip _ (vs ++ _))) h0 fun v0 => by kernel_rfl
theorem fk_245_6 : FnK (gx x) 245 6 [Str.ofString "self", Str.ofString "name", Str.ofString "owner", Str.ofString "sort", Str.ofString "params", Str.ofString "body", Str.ofString "sight"] [.str (Str.ofString "public") 0] (sf x 245) (bf x 245) := by
  refine fn_of (by with_unfolding_all exact rfl) (by kernel_rfl) (dfl' := [.str (Str.ofString "public") 597]) (by kernel_rfl) (fun vs h0 S => ?_) (by kernel_rfl)
  exact el_6 (P := fun vs => peek (gx x).K S (bindArgs _ ⟨vs, []⟩) = some (List.zip _ (vs ++ _))) h0 fun v0 v1 v2 v3 v4 v5 => by kernel_rfl
theorem fk_267_1 : FnK (gx x) 267 1 [Str.ofString "value"] [] (sf x 267) (bf x 267) := by
  refine fn_of (by with_unfolding_all exact rfl) (by kernel_rfl) (dfl' := []) (by kernel_rfl) (fun vs h0 S => ?_) (by kernel_rfl)
  exact el_1 (P := fun vs => peek (gx x).K S (bindArgs _ ⟨vs, []⟩) = some (List.zip _ (vs ++ _))) h0 fun v0 => by kernel_rfl
theorem fk_274_2 : FnK (gx x) 274 2 [Str.ofString "one", Str.ofString "other"] [] (sf x 274) (bf x 274) := by
  refine fn_of (by with_unfolding_all exact rfl) (by kernel_rfl) (dfl' := []) (by kernel_rfl) (fun vs h0 S => ?_) (by kernel_rfl)
  exact el_2 (P := fun vs => peek (gx x).K S (bindArgs _ ⟨vs, []⟩) = some (List.zip _ (vs ++ _))) h0 fun v0 v1 => by kernel_rfl
theorem fk_320_1 : FnK (gx x) 320 1 [Str.ofString "module"] [] (sf x 320) (bf x 320) := by
  refine fn_of (by with_unfolding_all exact rfl) (by kernel_rfl) (dfl' := []) (by kernel_rfl) (fun vs h0 S => ?_) (by kernel_rfl)
  exact el_1 (P := fun vs => peek (gx x).K S (bindArgs _ ⟨vs, []⟩) = some (List.zip _ (vs ++ _))) h0 fun v0 => by kernel_rfl
theorem fk_388_2 : FnK (gx x) 388 2 [Str.ofString "things", Str.ofString "one"] [] (sf x 388) (bf x 388) := by
  refine fn_of (by with_unfolding_all exact rfl) (by kernel_rfl) (dfl' := []) (by kernel_rfl) (fun vs h0 S => ?_) (by kernel_rfl)
  exact el_2 (P := fun vs => peek (gx x).K S (bindArgs _ ⟨vs, []⟩) = some (List.zip _ (vs ++ _))) h0 fun v0 v1 => by kernel_rfl
theorem fk_393_1 : FnK (gx x) 393 1 [Str.ofString "module"] [] (sf x 393) (bf x 393) := by
  refine fn_of (by with_unfolding_all exact rfl) (by kernel_rfl) (dfl' := []) (by kernel_rfl) (fun vs h0 S => ?_) (by kernel_rfl)
  exact el_1 (P := fun vs => peek (gx x).K S (bindArgs _ ⟨vs, []⟩) = some (List.zip _ (vs ++ _))) h0 fun v0 => by kernel_rfl
theorem fk_398_1 : FnK (gx x) 398 1 [Str.ofString "things"] [] (sf x 398) (bf x 398) := by
  refine fn_of (by with_unfolding_all exact rfl) (by kernel_rfl) (dfl' := []) (by kernel_rfl) (fun vs h0 S => ?_) (by kernel_rfl)
  exact el_1 (P := fun vs => peek (gx x).K S (bindArgs _ ⟨vs, []⟩) = some (List.zip _ (vs ++ _))) h0 fun v0 => by kernel_rfl
theorem fk_403_2 : FnK (gx x) 403 2 [Str.ofString "module", Str.ofString "behind"] [] (sf x 403) (bf x 403) := by
  refine fn_of (by with_unfolding_all exact rfl) (by kernel_rfl) (dfl' := []) (by kernel_rfl) (fun vs h0 S => ?_) (by kernel_rfl)
  exact el_2 (P := fun vs => peek (gx x).K S (bindArgs _ ⟨vs, []⟩) = some (List.zip _ (vs ++ _))) h0 fun v0 v1 => by kernel_rfl
theorem fk_410_2 : FnK (gx x) 410 2 [Str.ofString "world", Str.ofString "module"] [] (sf x 410) (bf x 410) := by
  refine fn_of (by with_unfolding_all exact rfl) (by kernel_rfl) (dfl' := []) (by kernel_rfl) (fun vs h0 S => ?_) (by kernel_rfl)
  exact el_2 (P := fun vs => peek (gx x).K S (bindArgs _ ⟨vs, []⟩) = some (List.zip _ (vs ++ _))) h0 fun v0 v1 => by kernel_rfl
theorem fk_438_3 : FnK (gx x) 438 3 [Str.ofString "world", Str.ofString "module", Str.ofString "name"] [] (sf x 438) (bf x 438) := by
  refine fn_of (by with_unfolding_all exact rfl) (by kernel_rfl) (dfl' := []) (by kernel_rfl) (fun vs h0 S => ?_) (by kernel_rfl)
  exact el_3 (P := fun vs => peek (gx x).K S (bindArgs _ ⟨vs, []⟩) = some (List.zip _ (vs ++ _))) h0 fun v0 v1 v2 => by kernel_rfl
theorem fk_445_3 : FnK (gx x) 445 3 [Str.ofString "world", Str.ofString "module", Str.ofString "name"] [] (sf x 445) (bf x 445) := by
  refine fn_of (by with_unfolding_all exact rfl) (by kernel_rfl) (dfl' := []) (by kernel_rfl) (fun vs h0 S => ?_) (by kernel_rfl)
  exact el_3 (P := fun vs => peek (gx x).K S (bindArgs _ ⟨vs, []⟩) = some (List.zip _ (vs ++ _))) h0 fun v0 v1 v2 => by kernel_rfl
theorem fk_452_3 : FnK (gx x) 452 3 [Str.ofString "world", Str.ofString "line", Str.ofString "name"] [] (sf x 452) (bf x 452) := by
  refine fn_of (by with_unfolding_all exact rfl) (by kernel_rfl) (dfl' := []) (by kernel_rfl) (fun vs h0 S => ?_) (by kernel_rfl)
  exact el_3 (P := fun vs => peek (gx x).K S (bindArgs _ ⟨vs, []⟩) = some (List.zip _ (vs ++ _))) h0 fun v0 v1 v2 => by kernel_rfl
theorem fk_459_3 : FnK (gx x) 459 3 [Str.ofString "world", Str.ofString "module", Str.ofString "name"] [] (sf x 459) (bf x 459) := by
  refine fn_of (by with_unfolding_all exact rfl) (by kernel_rfl) (dfl' := []) (by kernel_rfl) (fun vs h0 S => ?_) (by kernel_rfl)
  exact el_3 (P := fun vs => peek (gx x).K S (bindArgs _ ⟨vs, []⟩) = some (List.zip _ (vs ++ _))) h0 fun v0 v1 v2 => by kernel_rfl
theorem fk_466_4 : FnK (gx x) 466 4 [Str.ofString "world", Str.ofString "module", Str.ofString "owner", Str.ofString "name"] [] (sf x 466) (bf x 466) := by
  refine fn_of (by with_unfolding_all exact rfl) (by kernel_rfl) (dfl' := []) (by kernel_rfl) (fun vs h0 S => ?_) (by kernel_rfl)
  exact el_4 (P := fun vs => peek (gx x).K S (bindArgs _ ⟨vs, []⟩) = some (List.zip _ (vs ++ _))) h0 fun v0 v1 v2 v3 => by kernel_rfl
theorem fk_473_1 : FnK (gx x) 473 1 [Str.ofString "world"] [] (sf x 473) (bf x 473) := by
  refine fn_of (by with_unfolding_all exact rfl) (by kernel_rfl) (dfl' := []) (by kernel_rfl) (fun vs h0 S => ?_) (by kernel_rfl)
  exact el_1 (P := fun vs => peek (gx x).K S (bindArgs _ ⟨vs, []⟩) = some (List.zip _ (vs ++ _))) h0 fun v0 => by kernel_rfl
theorem fk_480_2 : FnK (gx x) 480 2 [Str.ofString "world", Str.ofString "module"] [] (sf x 480) (bf x 480) := by
  refine fn_of (by with_unfolding_all exact rfl) (by kernel_rfl) (dfl' := []) (by kernel_rfl) (fun vs h0 S => ?_) (by kernel_rfl)
  exact el_2 (P := fun vs => peek (gx x).K S (bindArgs _ ⟨vs, []⟩) = some (List.zip _ (vs ++ _))) h0 fun v0 v1 => by kernel_rfl
theorem fk_487_2 : FnK (gx x) 487 2 [Str.ofString "world", Str.ofString "value"] [] (sf x 487) (bf x 487) := by
  refine fn_of (by with_unfolding_all exact rfl) (by kernel_rfl) (dfl' := []) (by kernel_rfl) (fun vs h0 S => ?_) (by kernel_rfl)
  exact el_2 (P := fun vs => peek (gx x).K S (bindArgs _ ⟨vs, []⟩) = some (List.zip _ (vs ++ _))) h0 fun v0 v1 => by kernel_rfl
theorem fk_494_1 : FnK (gx x) 494 1 [Str.ofString "value"] [] (sf x 494) (bf x 494) := by
  refine fn_of (by with_unfolding_all exact rfl) (by kernel_rfl) (dfl' := []) (by kernel_rfl) (fun vs h0 S => ?_) (by kernel_rfl)
  exact el_1 (P := fun vs => peek (gx x).K S (bindArgs _ ⟨vs, []⟩) = some (List.zip _ (vs ++ _))) h0 fun v0 => by kernel_rfl
theorem fk_501_2 : FnK (gx x) 501 2 [Str.ofString "world", Str.ofString "value"] [] (sf x 501) (bf x 501) := by
  refine fn_of (by with_unfolding_all exact rfl) (by kernel_rfl) (dfl' := []) (by kernel_rfl) (fun vs h0 S => ?_) (by kernel_rfl)
  exact el_2 (P := fun vs => peek (gx x).K S (bindArgs _ ⟨vs, []⟩) = some (List.zip _ (vs ++ _))) h0 fun v0 v1 => by kernel_rfl
theorem fk_508_3 : FnK (gx x) 508 3 [Str.ofString "world", Str.ofString "module", Str.ofString "entry"] [] (sf x 508) (bf x 508) := by
  refine fn_of (by with_unfolding_all exact rfl) (by kernel_rfl) (dfl' := []) (by kernel_rfl) (fun vs h0 S => ?_) (by kernel_rfl)
  exact el_3 (P := fun vs => peek (gx x).K S (bindArgs _ ⟨vs, []⟩) = some (List.zip _ (vs ++ _))) h0 fun v0 v1 v2 => by kernel_rfl
theorem fk_529_4 : FnK (gx x) 529 4 [Str.ofString "world", Str.ofString "module", Str.ofString "mixin", Str.ofString "word"] [] (sf x 529) (bf x 529) := by
  refine fn_of (by with_unfolding_all exact rfl) (by kernel_rfl) (dfl' := []) (by kernel_rfl) (fun vs h0 S => ?_) (by kernel_rfl)
  exact el_4 (P := fun vs => peek (gx x).K S (bindArgs _ ⟨vs, []⟩) = some (List.zip _ (vs ++ _))) h0 fun v0 v1 v2 v3 => by kernel_rfl
theorem fk_536_3 : FnK (gx x) 536 3 [Str.ofString "world", Str.ofString "module", Str.ofString "mixin"] [] (sf x 536) (bf x 536) := by
  refine fn_of (by with_unfolding_all exact rfl) (by kernel_rfl) (dfl' := []) (by kernel_rfl) (fun vs h0 S => ?_) (by kernel_rfl)
  exact el_3 (P := fun vs => peek (gx x).K S (bindArgs _ ⟨vs, []⟩) = some (List.zip _ (vs ++ _))) h0 fun v0 v1 v2 => by kernel_rfl
theorem fk_541_3 : FnK (gx x) 541 3 [Str.ofString "world", Str.ofString "module", Str.ofString "mixin"] [] (sf x 541) (bf x 541) := by
  refine fn_of (by with_unfolding_all exact rfl) (by kernel_rfl) (dfl' := []) (by kernel_rfl) (fun vs h0 S => ?_) (by kernel_rfl)
  exact el_3 (P := fun vs => peek (gx x).K S (bindArgs _ ⟨vs, []⟩) = some (List.zip _ (vs ++ _))) h0 fun v0 v1 v2 => by kernel_rfl
theorem fk_609_5 : FnK (gx x) 609 5 [Str.ofString "self", Str.ofString "natives", Str.ofString "prelude", Str.ofString "read", Str.ofString "most"] [] (sf x 609) (bf x 609) := by
  refine fn_of (by with_unfolding_all exact rfl) (by kernel_rfl) (dfl' := []) (by kernel_rfl) (fun vs h0 S => ?_) (by kernel_rfl)
  exact el_5 (P := fun vs => peek (gx x).K S (bindArgs _ ⟨vs, []⟩) = some (List.zip _ (vs ++ _))) h0 fun v0 v1 v2 v3 v4 => by kernel_rfl
theorem fk_630_1 : FnK (gx x) 630 1 [Str.ofString "self"] [] (sf x 630) (bf x 630) := by
  refine fn_of (by with_unfolding_all exact rfl) (by kernel_rfl) (dfl' := []) (by kernel_rfl) (fun vs h0 S => ?_) (by kernel_rfl)
  exact el_1 (P := fun vs => peek (gx x).K S (bindArgs _ ⟨vs, []⟩) = some (List.zip _ (vs ++ _))) h0 fun v0 => by kernel_rfl
theorem fk_651_2 : FnK (gx x) 651 2 [Str.ofString "self", Str.ofString "name"] [] (sf x 651) (bf x 651) := by
  refine fn_of (by with_unfolding_all exact rfl) (by kernel_rfl) (dfl' := []) (by kernel_rfl) (fun vs h0 S => ?_) (by kernel_rfl)
  exact el_2 (P := fun vs => peek (gx x).K S (bindArgs _ ⟨vs, []⟩) = some (List.zip _ (vs ++ _))) h0 fun v0 v1 => by kernel_rfl
theorem fk_656_2 : FnK (gx x) 656 2 [Str.ofString "self", Str.ofString "name"] [] (sf x 656) (bf x 656) := by
  refine fn_of (by with_unfolding_all exact rfl) (by kernel_rfl) (dfl' := []) (by kernel_rfl) (fun vs h0 S => ?_) (by kernel_rfl)
  exact el_2 (P := fun vs => peek (gx x).K S (bindArgs _ ⟨vs, []⟩) = some (List.zip _ (vs ++ _))) h0 fun v0 v1 => by kernel_rfl
theorem fk_663_2 : FnK (gx x) 663 2 [Str.ofString "self", Str.ofString "name"] [] (sf x 663) (bf x 663) := by
  refine fn_of (by with_unfolding_all exact rfl) (by kernel_rfl) (dfl' := []) (by kernel_rfl) (fun vs h0 S => ?_) (by kernel_rfl)
  exact el_2 (P := fun vs => peek (gx x).K S (bindArgs _ ⟨vs, []⟩) = some (List.zip _ (vs ++ _))) h0 fun v0 v1 => by kernel_rfl
theorem fk_671_3 : FnK (gx x) 671 3 [Str.ofString "self", Str.ofString "name", Str.ofString "is_class", Str.ofString "parent", Str.ofString "outer", Str.ofString "attached"] [.none, .none, .none] (sf x 671) (bf x 671) := by
  refine fn_of (by with_unfolding_all exact rfl) (by kernel_rfl) (dfl' := [.none, .none, .none]) (by kernel_rfl) (fun vs h0 S => ?_) (by kernel_rfl)
  exact el_3 (P := fun vs => peek (gx x).K S (bindArgs _ ⟨vs, []⟩) = some (List.zip _ (vs ++ _))) h0 fun v0 v1 v2 => by kernel_rfl
theorem fk_671_4 : FnK (gx x) 671 4 [Str.ofString "self", Str.ofString "name", Str.ofString "is_class", Str.ofString "parent", Str.ofString "outer", Str.ofString "attached"] [.none, .none] (sf x 671) (bf x 671) := by
  refine fn_of (by with_unfolding_all exact rfl) (by kernel_rfl) (dfl' := [.none, .none]) (by kernel_rfl) (fun vs h0 S => ?_) (by kernel_rfl)
  exact el_4 (P := fun vs => peek (gx x).K S (bindArgs _ ⟨vs, []⟩) = some (List.zip _ (vs ++ _))) h0 fun v0 v1 v2 v3 => by kernel_rfl
theorem fk_671_6 : FnK (gx x) 671 6 [Str.ofString "self", Str.ofString "name", Str.ofString "is_class", Str.ofString "parent", Str.ofString "outer", Str.ofString "attached"] [] (sf x 671) (bf x 671) := by
  refine fn_of (by with_unfolding_all exact rfl) (by kernel_rfl) (dfl' := []) (by kernel_rfl) (fun vs h0 S => ?_) (by kernel_rfl)
  exact el_6 (P := fun vs => peek (gx x).K S (bindArgs _ ⟨vs, []⟩) = some (List.zip _ (vs ++ _))) h0 fun v0 v1 v2 v3 v4 v5 => by kernel_rfl
theorem fk_678_2 : FnK (gx x) 678 2 [Str.ofString "self", Str.ofString "value"] [] (sf x 678) (bf x 678) := by
  refine fn_of (by with_unfolding_all exact rfl) (by kernel_rfl) (dfl' := []) (by kernel_rfl) (fun vs h0 S => ?_) (by kernel_rfl)
  exact el_2 (P := fun vs => peek (gx x).K S (bindArgs _ ⟨vs, []⟩) = some (List.zip _ (vs ++ _))) h0 fun v0 v1 => by kernel_rfl
theorem fk_881_4 : FnK (gx x) 881 4 [Str.ofString "world", Str.ofString "module", Str.ofString "name", Str.ofString "body"] [] (sf x 881) (bf x 881) := by
  refine fn_of (by with_unfolding_all exact rfl) (by kernel_rfl) (dfl' := []) (by kernel_rfl) (fun vs h0 S => ?_) (by kernel_rfl)
  exact el_4 (P := fun vs => peek (gx x).K S (bindArgs _ ⟨vs, []⟩) = some (List.zip _ (vs ++ _))) h0 fun v0 v1 v2 v3 => by kernel_rfl
theorem fk_888_1 : FnK (gx x) 888 1 [Str.ofString "entry"] [] (sf x 888) (bf x 888) := by
  refine fn_of (by with_unfolding_all exact rfl) (by kernel_rfl) (dfl' := []) (by kernel_rfl) (fun vs h0 S => ?_) (by kernel_rfl)
  exact el_1 (P := fun vs => peek (gx x).K S (bindArgs _ ⟨vs, []⟩) = some (List.zip _ (vs ++ _))) h0 fun v0 => by kernel_rfl
theorem fk_893_2 : FnK (gx x) 893 2 [Str.ofString "levels", Str.ofString "at"] [] (sf x 893) (bf x 893) := by
  refine fn_of (by with_unfolding_all exact rfl) (by kernel_rfl) (dfl' := []) (by kernel_rfl) (fun vs h0 S => ?_) (by kernel_rfl)
  exact el_2 (P := fun vs => peek (gx x).K S (bindArgs _ ⟨vs, []⟩) = some (List.zip _ (vs ++ _))) h0 fun v0 v1 => by kernel_rfl
theorem fk_898_2 : FnK (gx x) 898 2 [Str.ofString "many", Str.ofString "at"] [] (sf x 898) (bf x 898) := by
  refine fn_of (by with_unfolding_all exact rfl) (by kernel_rfl) (dfl' := []) (by kernel_rfl) (fun vs h0 S => ?_) (by kernel_rfl)
  exact el_2 (P := fun vs => peek (gx x).K S (bindArgs _ ⟨vs, []⟩) = some (List.zip _ (vs ++ _))) h0 fun v0 v1 => by kernel_rfl
end
-- MRec
def oA : Option Addr → Value
  | none => .none
  | some a => .ref a
def oS : Option Str → Value
  | none => .none
  | some s => .str s 0
theorem oA_hand (o) : handedIn (oA o) = true := by cases o <;> rfl
theorem oS_hand (o) : handedIn (oS o) = true := by cases o <;> rfl
structure MR where
  number : Int
  owner : Option Addr
  fields : Addr
  own : Option Addr
  nm : Option Str
  isClass : Bool
  parent : Option Addr
  outer : Option Addr
  methods : Addr
  constants : Addr
  mixed : Addr
  ahead : Addr
  attached : Option Addr
  native : Option Str
  kept : Option Addr
def MR.fs (r : MR) : List (Str × Value) := [(Str.ofString "number", .int r.number 0), (Str.ofString "owner", oA r.owner), (Str.ofString "fields", .ref r.fields), (Str.ofString "own", oA r.own), (Str.ofString "frozen", .bool false), (Str.ofString "ident", .none), (Str.ofString "name", oS r.nm), (Str.ofString "is_class", .bool r.isClass), (Str.ofString "parent", oA r.parent), (Str.ofString "outer", oA r.outer), (Str.ofString "methods", .ref r.methods), (Str.ofString "constants", .ref r.constants), (Str.ofString "mixed", .ref r.mixed), (Str.ofString "ahead", .ref r.ahead), (Str.ofString "attached", oA r.attached), (Str.ofString "native", oS r.native), (Str.ofString "kept", oA r.kept)]
theorem MR.get_number (r : MR) : getF (Str.ofString "number") r.fs = some (.int r.number 0) := by kernel_rfl
theorem MR.get_owner (r : MR) : getF (Str.ofString "owner") r.fs = some (oA r.owner) := by kernel_rfl
theorem MR.set_owner (r : MR) (u : Option Addr) : setF (Str.ofString "owner") (oA u) r.fs = ({ r with owner := u } : MR).fs := by kernel_rfl
theorem MR.get_fields (r : MR) : getF (Str.ofString "fields") r.fs = some (.ref r.fields) := by kernel_rfl
theorem MR.get_own (r : MR) : getF (Str.ofString "own") r.fs = some (oA r.own) := by kernel_rfl
theorem MR.get_nm (r : MR) : getF (Str.ofString "name") r.fs = some (oS r.nm) := by kernel_rfl
theorem MR.set_nm (r : MR) (u : Option Str) : setF (Str.ofString "name") (oS u) r.fs = ({ r with nm := u } : MR).fs := by kernel_rfl
theorem MR.get_isClass (r : MR) : getF (Str.ofString "is_class") r.fs = some (.bool r.isClass) := by kernel_rfl
theorem MR.get_parent (r : MR) : getF (Str.ofString "parent") r.fs = some (oA r.parent) := by kernel_rfl
theorem MR.get_outer (r : MR) : getF (Str.ofString "outer") r.fs = some (oA r.outer) := by kernel_rfl
theorem MR.get_methods (r : MR) : getF (Str.ofString "methods") r.fs = some (.ref r.methods) := by kernel_rfl
theorem MR.get_constants (r : MR) : getF (Str.ofString "constants") r.fs = some (.ref r.constants) := by kernel_rfl
theorem MR.get_mixed (r : MR) : getF (Str.ofString "mixed") r.fs = some (.ref r.mixed) := by kernel_rfl
theorem MR.get_ahead (r : MR) : getF (Str.ofString "ahead") r.fs = some (.ref r.ahead) := by kernel_rfl
theorem MR.get_attached (r : MR) : getF (Str.ofString "attached") r.fs = some (oA r.attached) := by kernel_rfl
theorem MR.get_native (r : MR) : getF (Str.ofString "native") r.fs = some (oS r.native) := by kernel_rfl
theorem MR.get_kept (r : MR) : getF (Str.ofString "kept") r.fs = some (oA r.kept) := by kernel_rfl
theorem MR.len (r : MR) : r.fs.length ≤ 1000 := by show 17 ≤ 1000; decide
structure WR where
  natives : Addr
  prelude : Addr
  most : Int
  last : Int
  syms : Addr
  made : Addr
  version : Int
  globals : Addr
  out : Addr
  ready : Bool
  main : Option Addr
def WR.fs (r : WR) : List (Str × Value) := [(Str.ofString "natives", .ref r.natives), (Str.ofString "prelude", .ref r.prelude), (Str.ofString "read", .none), (Str.ofString "most", .int r.most 0), (Str.ofString "taken", .int 0 0), (Str.ofString "last_number", .int r.last 0), (Str.ofString "last_ident", .int 8 0), (Str.ofString "symbol_idents", .ref r.syms), (Str.ofString "made", .ref r.made), (Str.ofString "version", .int r.version 0), (Str.ofString "const_version", .int 0 0), (Str.ofString "globals", .ref r.globals), (Str.ofString "out", .ref r.out), (Str.ofString "here", .none), (Str.ofString "is_ready", .bool r.ready)] ++ (match r.main with | none => [] | some u => [(Str.ofString "main", .ref u)])
theorem WR.get_ready (r : WR) : getF (Str.ofString "is_ready") r.fs = some (.bool r.ready) := by kernel_rfl
theorem WR.len (r : WR) : r.fs.length ≤ 1000 := by rcases r with ⟨_, _, _, _, _, _, _, _, _, _, _ | _⟩ <;> (apply of_decide_eq_true; kernel_rfl)
theorem WR.set_main (r : WR) (u : Addr) (h : r.main = none) : setF (Str.ofString "main") (.ref u) r.fs = ({ r with main := some u } : WR).fs := by
  rcases r with ⟨_, _, _, _, _, _, _, _, _, _, _ | _⟩
  · kernel_rfl
  · cases h
structure ER where
  nm : Str
  owner : Addr
  sort : Str
  body : Str
  sight : Str
  nesting : Addr
def ER.fs (r : ER) : List (Str × Value) := [(Str.ofString "name", .str r.nm 0), (Str.ofString "owner", .ref r.owner), (Str.ofString "sort", .str r.sort 0), (Str.ofString "params", .none), (Str.ofString "body", .str r.body 0), (Str.ofString "sight", .str r.sight 0), (Str.ofString "nesting", .ref r.nesting), (Str.ofString "definer", .none), (Str.ofString "code", .none)]
theorem ER.get_nm (r : ER) : getF (Str.ofString "name") r.fs = some (.str r.nm 0) := by kernel_rfl
theorem ER.set_nm (r : ER) (u : Str) : setF (Str.ofString "name") (.str u 0) r.fs = ({ r with nm := u } : ER).fs := by kernel_rfl
theorem ER.get_owner (r : ER) : getF (Str.ofString "owner") r.fs = some (.ref r.owner) := by kernel_rfl
theorem ER.set_owner (r : ER) (u : Addr) : setF (Str.ofString "owner") (.ref u) r.fs = ({ r with owner := u } : ER).fs := by kernel_rfl
theorem ER.get_sort (r : ER) : getF (Str.ofString "sort") r.fs = some (.str r.sort 0) := by kernel_rfl
theorem ER.len (r : ER) : r.fs.length ≤ 1000 := by show 9 ≤ 1000; decide

def methK (f : Addr) : Prop := True
section
variable {x : XX}
theorem st_228_number : storable (gx x).K 228 (Str.ofString "number") = true := by kernel_rfl
theorem st_228_owner : storable (gx x).K 228 (Str.ofString "owner") = true := by kernel_rfl
theorem st_228_fields : storable (gx x).K 228 (Str.ofString "fields") = true := by kernel_rfl
theorem st_228_own : storable (gx x).K 228 (Str.ofString "own") = true := by kernel_rfl
theorem st_228_frozen : storable (gx x).K 228 (Str.ofString "frozen") = true := by kernel_rfl
theorem st_228_ident : storable (gx x).K 228 (Str.ofString "ident") = true := by kernel_rfl
theorem st_870_main : storable (gx x).K 870 (Str.ofString "main") = true := by kernel_rfl
theorem st_40_number : storable (gx x).K 40 (Str.ofString "number") = true := by kernel_rfl
theorem st_40_owner : storable (gx x).K 40 (Str.ofString "owner") = true := by kernel_rfl
theorem st_40_fields : storable (gx x).K 40 (Str.ofString "fields") = true := by kernel_rfl
theorem st_40_own : storable (gx x).K 40 (Str.ofString "own") = true := by kernel_rfl
theorem st_40_frozen : storable (gx x).K 40 (Str.ofString "frozen") = true := by kernel_rfl
theorem st_40_ident : storable (gx x).K 40 (Str.ofString "ident") = true := by kernel_rfl
theorem cm_init : clsMeth (gx x).K 40 37 (Str.ofString "__init__") = true := by kernel_rfl
theorem ck_228 : ClsK (gx x) 228 218 := ⟨by kernel_rfl, by kernel_rfl, by kernel_rfl⟩
theorem ck_256 : ClsK (gx x) 256 245 := ⟨by kernel_rfl, by kernel_rfl, by kernel_rfl⟩
theorem ck_870 : ClsK (gx x) 870 609 := ⟨by kernel_rfl, by kernel_rfl, by kernel_rfl⟩
theorem ck_40 : ClsK (gx x) 40 37 := ⟨by kernel_rfl, by kernel_rfl, by kernel_rfl⟩
theorem ii_bool : isiOk (gx x).K 228 (.type "bool") false = true := by kernel_rfl
theorem ii_int : isiOk (gx x).K 228 (.type "int") false = true := by kernel_rfl
theorem ii_str : isiOk (gx x).K 228 (.type "str") false = true := by kernel_rfl
theorem ii_thing : isiOk (gx x).K 228 (.ref 40) true = true := by kernel_rfl
theorem ii_module : isiOk (gx x).K 228 (.ref 228) true = true := by kernel_rfl
end
-- MLook
theorem upd_old {σ : AH} {x a : Addr} {o o' : AO} (hx : σ x = none) (ha : σ a = some o') : upd σ x o a = some o' := by
  rw [upd_ne]
  · exact ha
  · intro e; rw [e, hx] at ha; cases ha
theorem upd_at {σ : AH} {x a : Addr} {o o' : AO} (hn : a ≠ x) (ha : σ a = some o') : upd σ x o a = some o' := by rw [upd_ne _ _ hn]; exact ha
theorem upd_none {σ : AH} {x a : Addr} {o : AO} (hn : a ≠ x) (ha : σ a = none) : upd σ x o a = none := by rw [upd_ne _ _ hn]; exact ha
theorem ne_of_none_some {σ : AH} {x a : Addr} {o : AO} (hx : σ x = none) (ha : σ a = some o) : x ≠ a := by intro e; rw [e, ha] at hx; cases hx
def Ext (σ σ' : AH) : Prop := ∀ b o, σ b = some o → σ' b = some o
theorem Ext.at_ {σ σ' : AH} {b : Addr} {o : AO} (h : Ext σ σ') (hb : σ b = some o) : σ' b = some o := h b o hb
theorem Ext.refl (σ : AH) : Ext σ σ := fun _ _ h => h
theorem Ext.trans {σ σ' σ'' : AH} (h : Ext σ σ') (h' : Ext σ' σ'') : Ext σ σ'' := fun b o e => h' b o (h b o e)
theorem Ext.upd {σ σ' : AH} {x : Addr} {o : AO} (h : Ext σ σ') (hx : σ' x = none) : Ext σ (Mine.upd σ' x o) := fun b o' e => upd_old hx (h b o' e)
theorem Ext.upd' {σ σ' : AH} {x : Addr} {o : AO} (h : Ext σ σ') (hx : σ x = none) : Ext σ (Mine.upd σ' x o) := fun b o' e => upd_at (fun q => by rw [q, hx] at e; cases e) (h b o' e)
theorem iteT {c : Bool} {a b : Prop} (h : c = true) (x : a) : if c = true then a else b := by rw [if_pos h]; exact x
theorem iteF {c : Bool} {a b : Prop} (h : c = false) (x : b) : if c = true then a else b := by rw [if_neg (by rw [h]; decide)]; exact x
section
variable {G : GX} {n : Nat} {sc : Scope} {σ : AH} {vm : VM}
abbrev PCons (v : Value) (Pl : List Value → AH → Prop) (vs : List Value) (σ : AH) : Prop := Pl (v :: vs) σ
abbrev PArg (G : GX) (n : Nat) (sc : Scope) (vm : VM) (r : List Expr) (Pl : List Value → AH → Prop) (v : Value) (σ : AH) : Prop := WArgs G n sc vm r σ (PCons v Pl)
theorem wargs_cons {e r P} (h : WE G n sc e vm σ (PArg G n sc vm r P)) : WArgs G n sc vm (e :: r) σ P := h
theorem wargs_nil {P : List Value → AH → Prop} (h : P [] σ) : WArgs G n sc vm [] σ P := h
end
-- MTac
def AO.kd : AO → Nat
  | .inst .. => 0
  | .list .. => 1
  | .tup .. => 2
  | .idict .. => 3
  | .sdict .. => 4
theorem ne_kd {σ : AH} {a b : Addr} {o o' : AO} (ha : σ a = some o) (hb : σ b = some o') (h : (o.kd == o'.kd) = false) : a ≠ b := by
  intro e; rw [e, hb] at ha; cases ha; simp at h
section
variable {G : GX} {n : Nat} {sc : Scope} {σ : AH} {vm : VM} {P : Value → AH → Prop} {P' : Flow → VM → AH → Prop} {Pb : Bool → AH → Prop}
theorem WCode.le {f args} {k : Nat} (h : WCode G k f args σ P) (hk : k ≤ n) : WCode G n f args σ P := fun a e c m ex s R ok => h a e c m ex s R (ok.le hk)
theorem WCode.mono {f args} {P P' : Value → AH → Prop} (h : WCode G n f args σ P) (hP : ∀ v σ', P v σ' → P' v σ') : WCode G n f args σ P' := fun a e c m ex s R ok I k => h a e c m ex s R ok I fun v σ' h' tk p => k v σ' h' tk (hP _ _ p)
theorem callc {f args k} {P₀ : Value → AH → Prop} (h : WCode G k f args σ P₀) (hk : k ≤ n) (hP : ∀ v σ', P₀ v σ' → P v σ') : WCall G n (.ref f) args σ P := WCall.code ((h.le hk).mono hP)
theorem callk {C fI args k} {P₀ : Value → AH → Prop} (K : ClsK G C fI) (h : ∀ x, σ x = none → WCode G k fI (.ref x :: args) (upd σ x (.inst C [])) fun v σ' => v = .none ∧ P₀ (.ref x) σ') (hk : k + 1 ≤ n) (hP : ∀ v σ', P₀ v σ' → P v σ') : WCall G n (.ref C) args σ P :=
  ((WCall.cls K h).le hk).mono hP
abbrev PSeq (G : GX) (n : Nat) (sc : Scope) (rest : List Stmt) (P' : Flow → VM → AH → Prop) (fl : Flow) (vm : VM) (σ : AH) : Prop := match fl with | .next => WS G n sc rest vm σ P' | f => P' f vm σ
theorem a_seq {st rest} (h : WSt G n sc st vm σ (PSeq G n sc rest P')) : WS G n sc (st :: rest) vm σ P' := WS.cons h
def PTup (P : Value → AH → Prop) (xs : List Value) (σ : AH) : Prop := xs.length ≤ 100000 ∧ ∀ x, σ x = none → P (.ref x) (upd σ x (.tup xs))
def PLst (P : Value → AH → Prop) (xs : List Value) (σ : AH) : Prop := xs.length ≤ 100000 ∧ ∀ x, σ x = none → P (.ref x) (upd σ x (.list xs))
theorem a_tuple {es k pos} (hn : noStar es = true) (h : WArgs G n sc vm es σ (PTup P)) : WE G n sc (.Tuple es k pos) vm σ P := WE.tuple h hn
theorem a_list {es pos} (hn : noStar es = true) (h : WArgs G n sc vm es σ (PLst P)) : WE G n sc (.List es pos) vm σ P := WE.list h hn
theorem a_newT {xs : List Value} (h : xs.length ≤ 100000) (h2 : ∀ z, σ z = none → P (.ref z) (upd σ z (.tup xs))) : PTup P xs σ := ⟨h, h2⟩
theorem a_newL {xs : List Value} (h : xs.length ≤ 100000) (h2 : ∀ z, σ z = none → P (.ref z) (upd σ z (.list xs))) : PLst P xs σ := ⟨h, h2⟩
abbrev PCall (G : GX) (n : Nat) (f : Value) (P : Value → AH → Prop) (vs : List Value) (σ : AH) : Prop := WCall G n f vs σ P
def PCal (G : GX) (n : Nat) (sc : Scope) (vm : VM) (args : List Expr) (P : Value → AH → Prop) (f : Value) (σ : AH) : Prop := Callee G f ∧ WArgs G n sc vm args σ (PCall G n f P)
theorem a_call {func args pos} (hn : noStar args = true) (he : ∀ env, eval (.Call func args [] pos) env = (do callWith pos (← eval func env) [] (backTo pos (starEach args env)) (backToKw pos (keywordEach [] env))))
    (h : WE G n sc func vm σ (PCal G n sc vm args P)) : WE G n sc (.Call func args [] pos) vm σ P := WE.call h hn he
theorem at_callB {f : String} {args} (h : WArgs G n sc vm args σ (PCall G n (.builtin f) P)) : PCal G n sc vm args P (.builtin f) σ := ⟨trivial, h⟩
theorem at_callT {f : String} {args} (h : WArgs G n sc vm args σ (PCall G n (.type f) P)) : PCal G n sc vm args P (.type f) σ := ⟨trivial, h⟩
theorem at_callR {f : Addr} {args} (hk : keepIn G.K (.ref f) = true) (h : WArgs G n sc vm args σ (PCall G n (.ref f) P)) : PCal G n sc vm args P (.ref f) σ := ⟨hk, h⟩
abbrev PCallM (G : GX) (n : Nat) (f x : Addr) (P : Value → AH → Prop) (vs : List Value) (σ : AH) : Prop := WCall G n (.ref f) (.ref x :: vs) σ P
def PMeth (G : GX) (n : Nat) (sc : Scope) (vm : VM) (args : List Expr) (name : Str) (P : Value → AH → Prop) (ov : Value) (σ : AH) : Prop := ∃ x C fs f, ov = .ref x ∧ σ x = some (.inst C fs) ∧ methodIn G.K C name f = true ∧ getF name fs = none ∧ WArgs G n sc vm args σ (PCallM G n f x P)
theorem a_meth {o name apos args pos} (hn : noStar args = true)
    (he : ∀ env, ∃ pl, eval (.Call (.Attribute o name apos) args [] pos) env = (do
      let ov ← eval o env
      standAt apos.atName
      let (f, first) ← holding [ov] (getMethod ov name pl)
      callWith pos f first (backTo pos (starEach args env)) []))
    (h : WE G n sc o vm σ (PMeth G n sc vm args name P)) :
    WE G n sc (.Call (.Attribute o name apos) args [] pos) vm σ P := WE.meth h hn he
theorem at_meth {x : Addr} {C fs f name args} (h1 : σ x = some (.inst C fs)) (h2 : methodIn G.K C name f = true) (h3 : getF name fs = none) (h4 : WArgs G n sc vm args σ (PCallM G n f x P)) : PMeth G n sc vm args name P (.ref x) σ := ⟨x, C, fs, f, rfl, h1, h2, h3, h4⟩
abbrev PCallB (G : GX) (n : Nat) (id : String) (x : Addr) (P : Value → AH → Prop) (vs : List Value) (σ : AH) : Prop := WCall G n (.builtin id) (.ref x :: vs) σ P
def PBm (G : GX) (n : Nat) (sc : Scope) (vm : VM) (args : List Expr) (name : Str) (id : String) (P : Value → AH → Prop) (ov : Value) (σ : AH) : Prop := ∃ x, ov = .ref x ∧ BMeth G σ x name id ∧ WArgs G n sc vm args σ (PCallB G n id x P)
theorem a_bm {o name apos args pos} {id : String} (hn : noStar args = true)
    (he : ∀ env, ∃ pl, eval (.Call (.Attribute o name apos) args [] pos) env = (do
      let ov ← eval o env
      standAt apos.atName
      let (f, first) ← holding [ov] (getMethod ov name pl)
      callWith pos f first (backTo pos (starEach args env)) []))
    (h : WE G n sc o vm σ (PBm G n sc vm args name id P)) : WE G n sc (.Call (.Attribute o name apos) args [] pos) vm σ P := WE.bmeth h hn he
theorem at_bl {x : Addr} {xs name id args} (h1 : σ x = some (.list xs)) (h2 : Slot "list" name id) (h3 : typeOf (.builtin id) = pure (.type "method_descriptor")) (h4 : WArgs G n sc vm args σ (PCallB G n id x P)) : PBm G n sc vm args name id P (.ref x) σ := ⟨x, rfl, .list h1 h2 h3, h4⟩
theorem at_bd {x : Addr} {xs name id args} (h1 : σ x = some (.sdict xs)) (h2 : Slot "dict" name id) (h3 : typeOf (.builtin id) = pure (.type "method_descriptor")) (h4 : WArgs G n sc vm args σ (PCallB G n id x P)) : PBm G n sc vm args name id P (.ref x) σ := ⟨x, rfl, .sdict h1 h2 h3, h4⟩
theorem at_bk {x : Addr} {xs name id args} (h1 : KMap G x xs) (h2 : Slot "dict" name id) (h3 : typeOf (.builtin id) = pure (.type "method_descriptor")) (h4 : WArgs G n sc vm args σ (PCallB G n id x P)) : PBm G n sc vm args name id P (.ref x) σ := ⟨x, rfl, .kmap h1 h2 h3, h4⟩
def PAttr (G : GX) (attr : Str) (P : Value → AH → Prop) (o : Value) (σ : AH) : Prop := ∃ a C fs v, o = .ref a ∧ σ a = some (.inst C fs) ∧ readable G.K C attr = true ∧ getF attr fs = some v ∧ handedIn v = true ∧ P v σ
theorem a_attr {value attr pos} (he : ∀ env, eval (.Attribute value attr pos) env = (do let o ← eval value env; standAt pos.atName; let r ← holding [o] (getAttr o attr true); letTemporaryGo value o r; pure r))
    (h : WE G n sc value vm σ (PAttr G attr P)) : WE G n sc (.Attribute value attr pos) vm σ P := WE.attr h he
theorem at_attr' {a : Addr} {attr : Str} {C fs v} (h1 : σ a = some (.inst C fs)) (h2 : readable G.K C attr = true) (h3 : getF attr fs = some v) (h4 : handedIn v = true) (h5 : P v σ) : PAttr G attr P (.ref a) σ := ⟨a, C, fs, v, rfl, h1, h2, h3, h4, h5⟩
abbrev PSub2 (G : GX) (P : Value → AH → Prop) (o i : Value) (σ : AH) : Prop := SubP G σ P o i
abbrev PSub (G : GX) (n : Nat) (sc : Scope) (vm : VM) (slice : Expr) (P : Value → AH → Prop) (o : Value) (σ : AH) : Prop := WE G n sc slice vm σ (PSub2 G P o)
theorem a_sub {value slice pos} (hs : notSlice slice = true) (h : WE G n sc value vm σ (PSub G n sc vm slice P)) : WE G n sc (.Subscript value slice pos) vm σ P := WE.sub h hs
abbrev PCmp2 (G : GX) (n : Nat) (op : CmpOp) (P : Value → AH → Prop) (a b : Value) (σ : AH) : Prop := Cmp G n op a b σ P
abbrev PCmp (G : GX) (n : Nat) (sc : Scope) (vm : VM) (op : CmpOp) (r : Expr) (P : Value → AH → Prop) (a : Value) (σ : AH) : Prop := WE G n sc r vm σ (PCmp2 G n op P a)
abbrev PBin2 (G : GX) (n : Nat) (op : Operator) (P : Value → AH → Prop) (a b : Value) (σ : AH) : Prop := Bin G n op a b σ P
abbrev PBin (G : GX) (n : Nat) (sc : Scope) (vm : VM) (op : Operator) (r : Expr) (P : Value → AH → Prop) (a : Value) (σ : AH) : Prop := WE G n sc r vm σ (PBin2 G n op P a)
abbrev PTr (G : GX) (n : Nat) (Pb : Bool → AH → Prop) (v : Value) (σ : AH) : Prop := Tr G n v σ Pb
theorem a_compare {l op r pos} (hm : behindInMarks op r = false) (h : WE G n sc l vm σ (PCmp G n sc vm op r P)) : WE G n sc (.Compare l [op] [r] pos) vm σ P := WE.compare h hm
theorem a_tcompare {l op r pos} (hm : behindInMarks op r = false) (h : WE G n sc l vm σ (PCmp G n sc vm op r (PTr G n Pb))) : WT G n sc (.Compare l [op] [r] pos) vm σ Pb := WT.compare h hm
theorem a_binop {l op r pos} (h : WE G n sc l vm σ (PBin G n sc vm op r P)) : WE G n sc (.BinOp l op r pos) vm σ P := WE.binop h
theorem a_plain {e} (hp : plainTest e = true) (h : WE G n sc e vm σ (PTr G n Pb)) : WT G n sc e vm σ Pb := WT.plain h hp
abbrev PIfE (G : GX) (n : Nat) (sc : Scope) (vm : VM) (b o : Expr) (P : Value → AH → Prop) (r : Bool) (σ : AH) : Prop := if r then WE G n sc b vm σ P else WE G n sc o vm σ P
theorem a_ifExp {t b o pos} (h : WT G n sc t vm σ (PIfE G n sc vm b o P)) : WE G n sc (.IfExp t b o pos) vm σ P := WE.ifExp h
abbrev PIfT (G : GX) (n : Nat) (sc : Scope) (vm : VM) (b o : Expr) (Pb : Bool → AH → Prop) (r : Bool) (σ : AH) : Prop := if r then WT G n sc b vm σ Pb else WT G n sc o vm σ Pb
theorem a_tifExp {t b o pos} (h : WT G n sc t vm σ (PIfT G n sc vm b o Pb)) : WT G n sc (.IfExp t b o pos) vm σ Pb := WT.ifExp h
abbrev PAndT (G : GX) (n : Nat) (sc : Scope) (vm : VM) (rest : List Expr) (pos : Pos) (Pb : Bool → AH → Prop) (r : Bool) (σ : AH) : Prop := if r then WT G n sc (.BoolOp .And rest pos) vm σ Pb else Pb false σ
abbrev POrT (G : GX) (n : Nat) (sc : Scope) (vm : VM) (rest : List Expr) (pos : Pos) (Pb : Bool → AH → Prop) (r : Bool) (σ : AH) : Prop := if r then Pb true σ else WT G n sc (.BoolOp .Or rest pos) vm σ Pb
theorem a_tand {x rest pos} (h : WT G n sc x vm σ (PAndT G n sc vm rest pos Pb)) : WT G n sc (.BoolOp .And (x :: rest) pos) vm σ Pb := WT.and h
theorem a_tor {x rest pos} (h : WT G n sc x vm σ (POrT G n sc vm rest pos Pb)) : WT G n sc (.BoolOp .Or (x :: rest) pos) vm σ Pb := WT.or h
abbrev PNotT (Pb : Bool → AH → Prop) (r : Bool) (σ : AH) : Prop := Pb (!r) σ
theorem a_tnot {x pos} (h : WT G n sc x vm σ (PNotT Pb)) : WT G n sc (.UnaryOp .Not x pos) vm σ Pb := WT.not h
abbrev PIf (G : GX) (n : Nat) (sc : Scope) (vm : VM) (b o : List Stmt) (P' : Flow → VM → AH → Prop) (r : Bool) (σ : AH) : Prop := if r then WS G n sc b vm σ P' else WS G n sc o vm σ P'
theorem a_if {t b o pos} (h : WT G n sc t vm σ (PIf G n sc vm b o P')) : WSt G n sc (.If t b o pos) vm σ P' := WSt.if_ h
theorem at_ifT {b o} {r : Bool} (h : r = true) (x : WS G n sc b vm σ P') : PIf G n sc vm b o P' r σ := iteT h x
theorem at_ifF {b o} {r : Bool} (h : r = false) (x : WS G n sc o vm σ P') : PIf G n sc vm b o P' r σ := iteF h x
abbrev PRet (P' : Flow → VM → AH → Prop) (vm : VM) (v : Value) (σ : AH) : Prop := P' (.ret v) vm σ
theorem a_ret {e pos} (h : WE G n sc e vm σ (PRet P' vm)) : WSt G n sc (.Return (some e) pos) vm σ P' := WSt.ret h
abbrev PExp (P' : Flow → VM → AH → Prop) (vm : VM) (_ : Value) (σ : AH) : Prop := P' .next vm σ
theorem a_expr {e pos} (hs : ∀ env, swapsWith e none pos.line env = pure false) (h : WE G n sc e vm σ (PExp P' vm)) : WSt G n sc (.Expr e pos) vm σ P' := WSt.expr h hs
abbrev PAsg (P' : Flow → VM → AH → Prop) (vm : VM) (y : Str) (v : Value) (σ : AH) : Prop := P' .next (vm.set y v) σ
theorem a_assign {y pos' value pos} (hx : stores sc y = true) (hs : ∀ env, swapsWith value (some (.Name y pos')) pos.line env = pure false) (h : WE G n sc value vm σ (PAsg P' vm y)) : WSt G n sc (.Assign [.Name y pos'] value pos) vm σ P' := WSt.assign h hx hs
def PSet2 (G : GX) (vm : VM) (attr : Str) (P' : Flow → VM → AH → Prop) (v ov : Value) (σ : AH) : Prop := ∃ a C fs, ov = .ref a ∧ σ a = some (.inst C fs) ∧ storable G.K C attr = true ∧ (setF attr v fs).length ≤ 1000 ∧ P' .next vm (upd σ a (.inst C (setF attr v fs)))
abbrev PSet (G : GX) (n : Nat) (sc : Scope) (vm : VM) (o : Expr) (attr : Str) (P' : Flow → VM → AH → Prop) (v : Value) (σ : AH) : Prop := WE G n sc o vm σ (PSet2 G vm attr P' v)
theorem a_setAttr {o attr pos' value pos} (hs : ∀ env, swapsWith value (some (.Attribute o attr pos')) pos.line env = pure false)
    (h : WE G n sc value vm σ (PSet G n sc vm o attr P')) :
    WSt G n sc (.Assign [.Attribute o attr pos'] value pos) vm σ P' := WSt.setAttr h hs
theorem at_set' {a : Addr} {attr : Str} {v : Value} {C fs fs'} (h1 : σ a = some (.inst C fs)) (h2 : storable G.K C attr = true) (h3 : setF attr v fs = fs') (h4 : fs'.length ≤ 1000) (h5 : P' .next vm (upd σ a (.inst C fs'))) : PSet2 G vm attr P' v (.ref a) σ :=
  ⟨a, C, fs, rfl, h1, h2, by rw [h3]; exact h4, by rw [h3]; exact h5⟩
abbrev PAndE (G : GX) (n : Nat) (sc : Scope) (vm : VM) (rest : List Expr) (pos : Pos) (P : Value → AH → Prop) (v : Value) (r : Bool) (σ : AH) : Prop := if r then WE G n sc (.BoolOp .And rest pos) vm σ P else P v σ
abbrev PAndV (G : GX) (n : Nat) (sc : Scope) (vm : VM) (rest : List Expr) (pos : Pos) (P : Value → AH → Prop) (v : Value) (σ : AH) : Prop := Tr G n v σ (PAndE G n sc vm rest pos P v)
abbrev POrE (G : GX) (n : Nat) (sc : Scope) (vm : VM) (rest : List Expr) (pos : Pos) (P : Value → AH → Prop) (v : Value) (r : Bool) (σ : AH) : Prop := if r then P v σ else WE G n sc (.BoolOp .Or rest pos) vm σ P
abbrev POrV (G : GX) (n : Nat) (sc : Scope) (vm : VM) (rest : List Expr) (pos : Pos) (P : Value → AH → Prop) (v : Value) (σ : AH) : Prop := Tr G n v σ (POrE G n sc vm rest pos P v)
theorem a_and {e₁ e₂ rest pos} (h : WE G n sc e₁ vm σ (PAndV G n sc vm (e₂ :: rest) pos P)) : WE G n sc (.BoolOp .And (e₁ :: e₂ :: rest) pos) vm σ P := WE.and h
theorem a_or {e₁ e₂ rest pos} (h : WE G n sc e₁ vm σ (POrV G n sc vm (e₂ :: rest) pos P)) : WE G n sc (.BoolOp .Or (e₁ :: e₂ :: rest) pos) vm σ P := WE.or h
abbrev PNotE (P : Value → AH → Prop) (r : Bool) (σ : AH) : Prop := P (.bool !r) σ
theorem a_not {x pos} (h : WE G n sc x vm σ (PTr G n (PNotE P))) : WE G n sc (.UnaryOp .Not x pos) vm σ P := WE.not h
def AugQ (G : GX) (σ : AH) (a C : Addr) (attr : Str) (i : Int) (p : AH → Prop) (v : Value) : Prop := ∃ j t fs, v = .int j t ∧ σ a = some (.inst C fs) ∧ storable G.K C attr = true ∧ (setF attr (.int (i + j) 0) fs).length ≤ 1000 ∧ p (upd σ a (.inst C (setF attr (.int (i + j) 0) fs)))
def AugP (G : GX) (σ : AH) (attr : Str) (q : Addr → Addr → Int → Prop) (ov : Value) : Prop := ∃ a C fs i, ov = .ref a ∧ σ a = some (.inst C fs) ∧ readable G.K C attr = true ∧ getF attr fs = some (.int i 0) ∧ q a C i
theorem a_aug {o attr tpos value pos} (h : WE G n sc o vm σ fun ov σ₁ => AugP G σ₁ attr (fun a C i => WE G n sc value vm σ₁ fun v σ₂ => AugQ G σ₂ a C attr i (fun σ' => P' .next vm σ') v) ov) : WSt G n sc (.AugAssign (.Attribute o attr tpos) .Add value pos) vm σ P' := WSt.augAdd h
theorem at_aug {a : Addr} {attr : Str} {C fs i} {q : Addr → Addr → Int → Prop} (h1 : σ a = some (.inst C fs)) (h2 : readable G.K C attr = true) (h3 : getF attr fs = some (.int i 0)) (h4 : q a C i) : AugP G σ attr q (.ref a) := ⟨a, C, fs, i, rfl, h1, h2, h3, h4⟩
theorem at_aug2 {a : Addr} {attr : Str} {C fs fs' i j} {p : AH → Prop} (h1 : σ a = some (.inst C fs)) (h2 : storable G.K C attr = true) (h3 : setF attr (.int (i + j) 0) fs = fs') (h4 : fs'.length ≤ 1000) (h5 : p (upd σ a (.inst C fs'))) : AugQ G σ a C attr i p (.int j 0) :=
  ⟨j, 0, fs, rfl, h1, h2, by rw [h3]; exact h4, by rw [h3]; exact h5⟩
def PItem3 (vm : VM) (P' : Flow → VM → AH → Prop) (v ov iv : Value) (σ : AH) : Prop := ∃ a, ov = .ref a ∧
      ((∃ kvs k, iv = .int k 0 ∧ σ a = some (.idict kvs) ∧ kvs.length ≤ 100000 ∧ P' .next vm (upd σ a (.idict (stored kvs k v)))) ∨
       (∃ kvs k, iv = .str k 0 ∧ σ a = some (.sdict kvs) ∧ kvs.length ≤ 100000 ∧ P' .next vm (upd σ a (.sdict (stored kvs k v)))))
abbrev PItem2 (G : GX) (n : Nat) (sc : Scope) (vm : VM) (i : Expr) (P' : Flow → VM → AH → Prop) (v ov : Value) (σ : AH) : Prop := WE G n sc i vm σ (PItem3 vm P' v ov)
abbrev PItem (G : GX) (n : Nat) (sc : Scope) (vm : VM) (o i : Expr) (P' : Flow → VM → AH → Prop) (v : Value) (σ : AH) : Prop := WE G n sc o vm σ (PItem2 G n sc vm i P' v)
theorem a_setItem {o i pos' value pos} (hs : ∀ env, swapsWith value (some (.Subscript o i pos')) pos.line env = pure false)
    (h : WE G n sc value vm σ (PItem G n sc vm o i P')) :
    WSt G n sc (.Assign [.Subscript o i pos'] value pos) vm σ P' := WSt.setItem h hs
theorem at_ii {a : Addr} {kvs k v} (h1 : σ a = some (.idict kvs)) (h2 : kvs.length ≤ 100000) (h3 : P' .next vm (upd σ a (.idict (stored kvs k v)))) : PItem3 vm P' v (.ref a) (.int k 0) σ := ⟨a, rfl, .inl ⟨kvs, k, rfl, h1, h2, h3⟩⟩
theorem at_si {a : Addr} {kvs k v} (h1 : σ a = some (.sdict kvs)) (h2 : kvs.length ≤ 100000) (h3 : P' .next vm (upd σ a (.sdict (stored kvs k v)))) : PItem3 vm P' v (.ref a) (.str k 0) σ := ⟨a, rfl, .inr ⟨kvs, k, rfl, h1, h2, h3⟩⟩
def PUnp (P' : Flow → VM → AH → Prop) (vm : VM) (y z : Str) (v : Value) (σ : AH) : Prop := ∃ a u w, v = .ref a ∧ σ a = some (.tup [u, w]) ∧ P' .next ((vm.set y u).set z w) σ
theorem a_unpack2 {y z : Str} {py pz k tpos value pos} (hst : ([(y, py), (z, pz)].all fun p => stores sc p.1) = true)
    (hs : ∀ env, swapsWithSole [.Tuple [.Name y py, .Name z pz] k tpos] value pos.line env = pure false)
    (hw : ∀ env, swappedStores [.Tuple [.Name y py, .Name z pz] k tpos] value env = pure Option.none)
    (h : WE G n sc value vm σ (PUnp P' vm y z)) : WSt G n sc (.Assign [.Tuple [.Name y py, .Name z pz] k tpos] value pos) vm σ P' :=
  WSt.unpack (xs := [(y, py), (z, pz)]) (h.mono fun v σ' ⟨a, u, w, h1, h2, h3⟩ => ⟨a, [u, w], h1, h2, rfl, h3⟩) hst hs hw
theorem at_unp2 {a : Addr} {u v : Value} {y z : Str} (h1 : σ a = some (.tup [u, v])) (h2 : P' .next ((vm.set y u).set z v) σ) : PUnp P' vm y z (.ref a) σ := ⟨a, _, _, rfl, h1, h2⟩
def PSw3 (P' : Flow → VM → AH → Prop) (vm : VM) (a b c : Str) (ys : List Value) (σ : AH) : Prop := ∃ u v w, ys = [u, v, w] ∧ P' .next (((vm.set c w).set b v).set a u) σ
def PSw2 (P' : Flow → VM → AH → Prop) (vm : VM) (a b : Str) (ys : List Value) (σ : AH) : Prop := ∃ u v, ys = [u, v] ∧ P' .next ((vm.set b v).set a u) σ
theorem a_swap3 {elts k tpos e1 e2 e3 kv vpos pos} {a b c : Str} (hst : [a, b, c].all (stores sc) = true) (hn : noStar [e1, e2, e3] = true)
    (hs : ∀ env, swapsWithSole [.Tuple elts k tpos] (.Tuple [e1, e2, e3] kv vpos) pos.line env = pure false)
    (hw : ∀ env : Env, env.scope = sc → swappedStores [.Tuple elts k tpos] (.Tuple [e1, e2, e3] kv vpos) env = pure (some [a, b, c]))
    (h : WArgs G n sc vm [e1, e2, e3] σ (PSw3 P' vm a b c)) :
    WSt G n sc (.Assign [.Tuple elts k tpos] (.Tuple [e1, e2, e3] kv vpos) pos) vm σ P' := WSt.swapped (h.mono fun ys σ' ⟨u, v, w, e, p⟩ => by subst e; exact ⟨rfl, by simp, p⟩) hst hn hs hw
theorem a_swap2 {elts k tpos e1 e2 kv vpos pos} {a b : Str} (hst : [a, b].all (stores sc) = true) (hn : noStar [e1, e2] = true)
    (hs : ∀ env, swapsWithSole [.Tuple elts k tpos] (.Tuple [e1, e2] kv vpos) pos.line env = pure false)
    (hw : ∀ env : Env, env.scope = sc → swappedStores [.Tuple elts k tpos] (.Tuple [e1, e2] kv vpos) env = pure (some [a, b]))
    (h : WArgs G n sc vm [e1, e2] σ (PSw2 P' vm a b)) :
    WSt G n sc (.Assign [.Tuple elts k tpos] (.Tuple [e1, e2] kv vpos) pos) vm σ P' := WSt.swapped (h.mono fun ys σ' ⟨u, v, e, p⟩ => by subst e; exact ⟨rfl, by simp, p⟩) hst hn hs hw
theorem at_sw2 {u v : Value} {a b : Str} (h : P' .next ((vm.set b v).set a u) σ) : PSw2 P' vm a b [u, v] σ := ⟨u, v, rfl, h⟩
theorem at_sw3 {u v w : Value} {a b c : Str} (h : P' .next (((vm.set c w).set b v).set a u) σ) : PSw3 P' vm a b c [u, v, w] σ := ⟨u, v, w, rfl, h⟩
theorem a_tinit {x : XX} {o apos args pos} (hn : noStar args = true)
    (he : ∀ env, ∃ pl, eval (.Call (.Attribute o (Str.ofString "__init__") apos) args [] pos) env = (do
      let ov ← eval o env
      standAt apos.atName
      let (f, first) ← holding [ov] (getMethod ov (Str.ofString "__init__") pl)
      callWith pos f first (backTo pos (starEach args env)) []))
    (h : WE (gx x) n sc o vm σ fun ov σ₁ => ov = .ref 40 ∧ WArgs (gx x) n sc vm args σ₁ fun vs σ₂ => WCall (gx x) n (.ref 37) vs σ₂ P) : WE (gx x) n sc (.Call (.Attribute o (Str.ofString "__init__") apos) args [] pos) vm σ P :=
  WE.clsMeth (h.mono fun _ _ p => ⟨p.1, cm_init, p.2⟩) hn he
theorem at_self {v : Value} {p : Prop} (h : p) : v = v ∧ p := ⟨rfl, h⟩
theorem Ext.none {σ σ' : AH} {a : Addr} (h : Ext σ σ') (ha : σ' a = none) : σ a = none := by
  cases q : σ a with
  | none => rfl
  | some o => rw [h a o q] at ha; cases ha
theorem getS_some {a : Addr} {kvs y t v} (ha : σ a = some (.sdict kvs)) (hv : valueAt kvs y = some v) (h : P v σ) : WCall G n (.builtin "dict.get") [.ref a, .str y t] σ P := WCall.getS ha (by rw [hv]; exact h)
theorem getS_none {a : Addr} {kvs y t} (ha : σ a = some (.sdict kvs)) (hv : valueAt kvs y = none) (h : P .none σ) : WCall G n (.builtin "dict.get") [.ref a, .str y t] σ P := WCall.getS ha (by rw [hv]; exact h)
theorem getS_nil {a : Addr} {y t} (ha : σ a = some (.sdict [])) (h : P .none σ) : WCall G n (.builtin "dict.get") [.ref a, .str y t] σ P := WCall.getS ha h
theorem getSD_nil {a : Addr} {y t dv} (ha : σ a = some (.sdict [])) (h : P dv σ) : WCall G n (.builtin "dict.get") [.ref a, .str y t, dv] σ P := WCall.getSD ha h
theorem ref_get {ms : List Addr} {k : Nat} {y : Value} (h : (ms.map Value.ref)[k]? = some y) : ∃ a, ms[k]? = some a ∧ y = .ref a := by
  rw [List.getElem?_map] at h
  cases q : ms[k]? with
  | none => rw [q] at h; cases h
  | some a => rw [q] at h; cases h; exact ⟨a, rfl, rfl⟩
theorem take_succ' {α} {l : List α} {k : Nat} {a : α} (h : l[k]? = some a) : l.take (k + 1) = l.take k ++ [a] := by
  rw [List.take_add_one, h]; rfl
theorem mem_of_get {α} {l : List α} {k : Nat} {a : α} (h : l[k]? = some a) : a ∈ l := List.mem_of_getElem? h
theorem WSt.forList {x px e body pos} {P : Flow → VM → AH → Prop} (hx : stores sc x = true) (hs : ∀ env z, foldedSetIterable e env z = pure z)
    (h : WE G n sc e vm σ fun v σ₁ => ∃ a xs, v = .ref a ∧ σ₁ a = some (.list xs) ∧ Turns G n sc x body P xs (fun σ => σ a = some (.list xs)) vm σ₁) : WSt G n sc (.For (.Name x px) e body [] pos) vm σ P := WSt.for_ (WIt.list h) hx hs
theorem wifs_nil {Pb : Bool → AH → Prop} (h : Pb true σ) : WIfs G n sc [] vm σ Pb := h
theorem wifs_one {Pb : Bool → AH → Prop} {t} (h : WT G n sc t vm σ Pb) : WIfs G n sc [t] vm σ Pb := h
theorem MR.gs_own {r : MR} {u : Addr} (h : r.own = some u) : getF (Str.ofString "own") r.fs = some (.ref u) := by rw [MR.get_own, h]; rfl
theorem MR.gn_own {r : MR} (h : r.own = none) : getF (Str.ofString "own") r.fs = some .none := by rw [MR.get_own, h]; rfl
theorem MR.gn_outer {r : MR} (h : r.outer = none) : getF (Str.ofString "outer") r.fs = some .none := by rw [MR.get_outer, h]; rfl
theorem MR.gs_attached {r : MR} {u : Addr} (h : r.attached = some u) : getF (Str.ofString "attached") r.fs = some (.ref u) := by rw [MR.get_attached, h]; rfl
theorem MR.gn_attached {r : MR} (h : r.attached = none) : getF (Str.ofString "attached") r.fs = some .none := by rw [MR.get_attached, h]; rfl
theorem MR.gs_kept {r : MR} {u : Addr} (h : r.kept = some u) : getF (Str.ofString "kept") r.fs = some (.ref u) := by rw [MR.get_kept, h]; rfl
theorem MR.gn_kept {r : MR} (h : r.kept = none) : getF (Str.ofString "kept") r.fs = some .none := by rw [MR.get_kept, h]; rfl
theorem MR.gs_nm {r : MR} {u : Str} (h : r.nm = some u) : getF (Str.ofString "name") r.fs = some (.str u 0) := by rw [MR.get_nm, h]; rfl
theorem MR.gs_native {r : MR} {u : Str} (h : r.native = some u) : getF (Str.ofString "native") r.fs = some (.str u 0) := by rw [MR.get_native, h]; rfl
theorem MR.gn_native {r : MR} (h : r.native = none) : getF (Str.ofString "native") r.fs = some .none := by rw [MR.get_native, h]; rfl
theorem oA_inj {a b : Option Addr} (h : oA a = oA b) : a = b := by cases a <;> cases b <;> simp_all [oA]
theorem oS_inj {a b : Option Str} (h : oS a = oS b) : a = b := by cases a <;> cases b <;> simp_all [oS]
theorem getF_inj {n : Str} {fs gs : List (Str × Value)} {u v : Value} (h : fs = gs) (h1 : getF n fs = some u) (h2 : getF n gs = some v) : u = v := by
  subst h; exact Option.some.inj (h1.symm.trans h2)
theorem MR.inj {r q : MR} (h : r.fs = q.fs) : r = q :=
  congr (congr (congr (congr (congr (congr (congr (congr (congr (congr (congr (congr (congr (congr (congrArg MR.mk (Value.int.inj (getF_inj h (MR.get_number r) (MR.get_number q))).1) (oA_inj (getF_inj h (MR.get_owner r) (MR.get_owner q)))) (Value.ref.inj (getF_inj h (MR.get_fields r) (MR.get_fields q)))) (oA_inj (getF_inj h (MR.get_own r) (MR.get_own q)))) (oS_inj (getF_inj h (MR.get_nm r) (MR.get_nm q)))) (Value.bool.inj (getF_inj h (MR.get_isClass r) (MR.get_isClass q)))) (oA_inj (getF_inj h (MR.get_parent r) (MR.get_parent q)))) (oA_inj (getF_inj h (MR.get_outer r) (MR.get_outer q)))) (Value.ref.inj (getF_inj h (MR.get_methods r) (MR.get_methods q)))) (Value.ref.inj (getF_inj h (MR.get_constants r) (MR.get_constants q)))) (Value.ref.inj (getF_inj h (MR.get_mixed r) (MR.get_mixed q)))) (Value.ref.inj (getF_inj h (MR.get_ahead r) (MR.get_ahead q)))) (oA_inj (getF_inj h (MR.get_attached r) (MR.get_attached q)))) (oS_inj (getF_inj h (MR.get_native r) (MR.get_native q)))) (oA_inj (getF_inj h (MR.get_kept r) (MR.get_kept q)))
theorem WSt.forRev {x px func e₁ cpos body pos} {P : Flow → VM → AH → Prop} (hx : stores sc x = true) (hn : noStar [e₁] = true) (hs : ∀ env z, foldedSetIterable (.Call func [e₁] [] cpos) env z = pure z)
    (he : ∀ env, eval (.Call func [e₁] [] cpos) env = (do callWith cpos (← eval func env) [] (backTo cpos (starEach [e₁] env)) (backToKw cpos (keywordEach [] env))))
    (h : WE G n sc func vm σ fun f σ₁ => f = .type "reversed" ∧ WArgs G n sc vm [e₁] σ₁ fun vs σ₂ => ∃ a xs, vs = [.ref a] ∧ σ₂ a = some (.list xs) ∧ Turns G n sc x body P xs.reverse (fun σ => σ a = some (.list xs)) vm σ₂) :
    WSt G n sc (.For (.Name x px) (.Call func [e₁] [] cpos) body [] pos) vm σ P := WSt.for_ (WIt.rev h hn he) hx hs
end
-- MComp3
section
variable {G : GX} {n : Nat} {sc : Scope} {σ : AH} {vm : VM}
theorem wst_assignComp' {y py elt iter ifs cs x px pos spos} {P : Flow → VM → AH → Prop} (fr : List Str) (ck : CompK cs sc x fr) (hfr : ∀ y ∈ fr, (vm y).isSome = true) (hy : stores sc y = true)
    (h : WIt G n sc iter vm σ fun xs okk σ₁ => xs.length ≤ 100000 ∧ ∃ J : Nat → List Value → AH → Prop, J 0 [] σ₁ ∧ (∀ k ys σ, J k ys σ → okk σ) ∧
      (∀ k y ys σ, xs[k]? = some y → J k ys σ → WIfs G n (relS cs sc) ifs (compVM G cs sc vm x y) σ fun b σ' => if b then WE G n (relS cs sc) elt (compVM G cs sc vm x y) σ' fun u σ'' => J (k + 1) (ys ++ [u]) σ'' else J (k + 1) ys σ') ∧
      ∀ ys σ D, J xs.length ys σ → σ D = none → P .next (vm.set y (.ref D)) (upd σ D (.list ys)))
    (hsw : ∀ env : Env, env.scope = sc → swapsWith (Expr.ListComp elt [⟨Expr.Name x px, iter, ifs, 0⟩] cs pos) (some (Expr.Name y py)) spos.line env = pure true)
    (hs : ∀ env x, foldedSetIterable iter env x = pure x := by intro _ _; rfl) : WSt G n sc (.Assign [.Name y py] (.ListComp elt [⟨.Name x px, iter, ifs, 0⟩] cs pos) spos) vm σ P := by
  intro c m cells ex s Q E ok es vo co X kk
  have eo := ok.env es
  obtain ⟨cl, hclos, hcl, hcl2⟩ := closure_of eo vo.up (ex := cells ++ ex) ck hfr
  have hk := ck.ok
  simp only [Bool.and_eq_true, beq_iff_eq, Bool.not_eq_true'] at hk
  obtain ⟨⟨⟨⟨k1, k2⟩, k3⟩, k4⟩, k5⟩ := hk
  have hks : cs.kind = .function := by cases h : cs.kind <;> rw [h] at k2 <;> simp_all
  rw [exec_Assign_Name_used _ _ _ _ (hsw _ es)]
  refine wpAny_bind (wpAny_standAt (wpAny_bind ?_))
  show wpAny _ _ (do let _ ← comprehension (Expr.ListComp elt [⟨Expr.Name x px, iter, ifs, 0⟩] cs pos) cs c.fenv _ (newList []) false (eval iter c.fenv) (some (assign (Expr.Name y py) c.fenv))) _ _ s
  refine wpAny_bind (wpAny_mono (wpAny_comprehension_free (use := some (assign (Expr.Name y py) c.fenv)) (Q := fun _ s' => Q .next s') rfl (hs _) hclos hks (fun y hy hl => by
    have := List.all_eq_true.mp k3 y hy
    simpa [hl] using this) (h c c.fenv m (cells ++ ex) s _ E ok eo vo.up X fun I l xs okk it σ' h' tk ii i0 X' p => ?_)) (fun _ s' hq => wpAny_pure (wpAny_pure hq)) fun _ _ e => e)
  obtain ⟨hz, J, j0, jok, jstep, jdone⟩ := p
  refine listComp_core (RR := fun acc C => compPost (model G.prog G.w) c.A E (some (assign (Expr.Name y py) c.fenv)) (fun _ s' => Q .next s') acc C) ok eo vo.up ck hcl hcl2 ii i0 X' hz J j0 jok jstep fun D C oC mC ys σ6 h6 tk6 hj hD hCD hN X6 => ?_
  have X7 : Inv G c m (cells ++ ((C, oC) :: ex)) (upd σ6 D (.list ys)) h6 := X6.perm List.perm_middle.symm
  refine wpAny_assign_Name (store_W ok es hy vo co X7 fun m' cells' h7 tk7 vo' co' X8 => ?_)
  refine ⟨mC, hN.ns (X8.exGet (I := C) (o := oC) (by simp)), fun h9 hs9 => ?_⟩
  have X9 : Inv G c m' ((C, oC) :: (cells' ++ ex)) (upd σ6 D (.list ys)) h7 := X8.perm List.perm_middle
  exact kk .next _ _ m' cells' h9 tk7 (jdone _ _ _ hj hD) vo' co' (X9.exDrop hs9.extBut)
end
-- MPost
/-- a function's own end, held as one letter -/
structure Ret (P : Value → AH → Prop) (P' : Flow → VM → AH → Prop) : Prop where
  ret : ∀ v vm σ, P v σ → P' (.ret v) vm σ
  nxt : ∀ vm σ, P .none σ → P' .next vm σ
section
variable {G : GX} {n : Nat} {sc : Scope} {σ : AH} {vm : VM} {P : Value → AH → Prop} {P' : Flow → VM → AH → Prop}
theorem WCode.ofP {f k names dfl scope body args} (K : FnK G f k names dfl scope body) (hl : args.length = k)
    (h : ∀ P', Ret P P' → WS G n scope body (argVM G scope (names.zip (args ++ dfl))) σ P') : WCode G (n + 1) f args σ P :=
  WCode.of K hl (h _ ⟨fun _ _ _ h => h, fun _ _ h => h⟩)
theorem at_ret {v} (h : Ret P P') (x : P v σ) : PRet P' vm v σ := h.ret _ _ _ x
theorem at_retS {v rest} (h : PRet P' vm v σ) : PRet (PSeq G n sc rest P') vm v σ := h
theorem at_nxt (h : Ret P P') (x : P .none σ) : P' .next vm σ := h.nxt _ _ x
/-- a while's body, its end held as a name -/
def WhB (J : Nat → VM → AH → Prop) (k : Nat) (P' : Flow → VM → AH → Prop) : Flow → VM → AH → Prop := fun fl vm' σ'' => match fl with
  | .next | .cont => ∃ j, j < k ∧ J j vm' σ'' | .brk => P' .next vm' σ'' | .ret v => P' (.ret v) vm' σ''
def WhT (G : GX) (n : Nat) (sc : Scope) (body : List Stmt) (J : Nat → VM → AH → Prop) (k : Nat) (P' : Flow → VM → AH → Prop) (vm : VM) (b : Bool) (σ' : AH) : Prop :=
  if b then WS G n sc body vm σ' (WhB J k P') else P' .next vm σ'
theorem whT {b : Bool} {body J k} (h : b = true) (x : WS G n sc body vm σ (WhB J k P')) : WhT G n sc body J k P' vm b σ := by rw [h]; exact x
theorem whF {b : Bool} {body J k} (h : b = false) (x : P' .next vm σ) : WhT G n sc body J k P' vm b σ := by rw [h]; exact x
theorem WSt.whileP {test body pos} (J : Nat → VM → AH → Prop) (k : Nat) (h0 : J k vm σ) (hstep : ∀ k vm σ, J k vm σ → WT G n sc test vm σ (WhT G n sc body J k P' vm)) :
    WSt G n sc (.While test body [] pos) vm σ P' := WSt.while_ J k h0 hstep
def FoB (J : VM → AH → Prop) (P' : Flow → VM → AH → Prop) : Flow → VM → AH → Prop := fun fl vm' σ' => match fl with
  | .next | .cont => J vm' σ' | .brk => P' .next vm' σ' | .ret v => P' (.ret v) vm' σ'
theorem at_retW {v J k} (h : PRet P' vm v σ) : PRet (WhB J k P') vm v σ := h
theorem at_retF {v J} (h : PRet P' vm v σ) : PRet (FoB J P') vm v σ := h
theorem Turns.of {x body xs ok} (J : Nat → VM → AH → Prop) (h0 : J 0 vm σ) (h1 : ∀ k vm σ, J k vm σ → ok σ)
    (h2 : ∀ k y vm σ, xs[k]? = some y → J k vm σ → WS G n sc body (vm.set x y) σ (FoB (J (k + 1)) P')) (h3 : ∀ vm σ, J xs.length vm σ → P' .next vm σ) : Turns G n sc x body P' xs ok vm σ :=
  ⟨J, h0, h1, h2, h3⟩
end
-- MTab
inductive GLt : Str → Value → Prop
  | g0 : GLt (Str.ofString "sort_of") (.ref 267)
  | g1 : GLt (Str.ofString "same") (.ref 274)
  | g2 : GLt (Str.ofString "full_name") (.ref 320)
  | g3 : GLt (Str.ofString "has_thing") (.ref 388)
  | g4 : GLt (Str.ofString "own_line") (.ref 393)
  | g5 : GLt (Str.ofString "numbered") (.ref 398)
  | g6 : GLt (Str.ofString "made_line") (.ref 403)
  | g7 : GLt (Str.ofString "line_of") (.ref 410)
  | g8 : GLt (Str.ofString "sight_of") (.ref 431)
  | g9 : GLt (Str.ofString "given_entry") (.ref 438)
  | g10 : GLt (Str.ofString "entry_at") (.ref 445)
  | g11 : GLt (Str.ofString "first_entry") (.ref 452)
  | g12 : GLt (Str.ofString "find") (.ref 459)
  | g13 : GLt (Str.ofString "find_behind") (.ref 466)
  | g14 : GLt (Str.ofString "raise_version") (.ref 473)
  | g15 : GLt (Str.ofString "need_unfrozen") (.ref 480)
  | g16 : GLt (Str.ofString "own_module") (.ref 487)
  | g17 : GLt (Str.ofString "class_above") (.ref 494)
  | g18 : GLt (Str.ofString "make_own") (.ref 501)
  | g19 : GLt (Str.ofString "define") (.ref 508)
  | g20 : GLt (Str.ofString "kind_word") (.ref 515)
  | g21 : GLt (Str.ofString "copied") (.ref 522)
  | g22 : GLt (Str.ofString "need_mixin") (.ref 529)
  | g23 : GLt (Str.ofString "include") (.ref 536)
  | g24 : GLt (Str.ofString "prepend") (.ref 541)
  | g25 : GLt (Str.ofString "_law_put") (.ref 881)
  | g26 : GLt (Str.ofString "_law_plain") (.ref 888)
  | g27 : GLt (Str.ofString "_law_levels_right") (.ref 893)
  | g28 : GLt (Str.ofString "_law_classes_right") (.ref 898)
  | g29 : GLt (Str.ofString "law") (.ref 905)
  | g30 : GLt (Str.ofString "Thing") (.ref 40)
  | g31 : GLt (Str.ofString "ModuleThing") (.ref 228)
  | g32 : GLt (Str.ofString "Entry") (.ref 256)
  | g33 : GLt (Str.ofString "GivenEntry") (.ref 422)
  | g34 : GLt (Str.ofString "World") (.ref 870)
  | g35 : GLt (Str.ofString "MODULES") (.ref 582)
  | g36 : GLt (Str.ofString "BUILTINS") (.ref 583)
  | g37 : GLt (Str.ofString "MIXED") (.ref 586)
inductive GBt : Str → Value → Prop
  | g0 : GBt (Str.ofString "isinstance") (.builtin "isinstance")
  | g1 : GBt (Str.ofString "len") (.builtin "len")
  | g2 : GBt (Str.ofString "abs") (.builtin "abs")
  | g3 : GBt (Str.ofString "enumerate") (.type "enumerate")
  | g4 : GBt (Str.ofString "range") (.type "range")
  | g5 : GBt (Str.ofString "reversed") (.type "reversed")
  | g6 : GBt (Str.ofString "list") (.type "list")
  | g7 : GBt (Str.ofString "str") (.type "str")
  | g8 : GBt (Str.ofString "bool") (.type "bool")
  | g9 : GBt (Str.ofString "int") (.type "int")
  | g10 : GBt (Str.ofString "min") (.builtin "min")
inductive MtT : Addr → Str → Addr → Prop
  | m0 : MtT 228 (Str.ofString "is_own") 225
  | m1 : MtT 870 (Str.ofString "number") 630
  | m2 : MtT 870 (Str.ofString "builtin") 651
  | m3 : MtT 870 (Str.ofString "make_builtin") 656
  | m4 : MtT 870 (Str.ofString "give_own") 663
  | m5 : MtT 870 (Str.ofString "new_module") 671
  | m6 : MtT 870 (Str.ofString "class_of") 678
inductive NoT : Str → List (Str × Value) → Prop
  | m0 (r : MR) : NoT (Str.ofString "is_own") r.fs
  | m1 (r : WR) : NoT (Str.ofString "number") r.fs
  | m2 (r : WR) : NoT (Str.ofString "builtin") r.fs
  | m3 (r : WR) : NoT (Str.ofString "make_builtin") r.fs
  | m4 (r : WR) : NoT (Str.ofString "give_own") r.fs
  | m5 (r : WR) : NoT (Str.ofString "new_module") r.fs
  | m6 (r : WR) : NoT (Str.ofString "class_of") r.fs
inductive GfT : Str → List (Str × Value) → Value → Prop
  | g0 (r : MR) : GfT (Str.ofString "number") r.fs (.int r.number 0)
  | g1 (r : MR) : GfT (Str.ofString "owner") r.fs (oA r.owner)
  | g2 (r : MR) : GfT (Str.ofString "fields") r.fs (.ref r.fields)
  | g3 (r : MR) : GfT (Str.ofString "own") r.fs (oA r.own)
  | g4 (r : MR) : GfT (Str.ofString "frozen") r.fs (.bool false)
  | g5 (r : MR) : GfT (Str.ofString "ident") r.fs (.none)
  | g6 (r : MR) : GfT (Str.ofString "name") r.fs (oS r.nm)
  | g7 (r : MR) : GfT (Str.ofString "is_class") r.fs (.bool r.isClass)
  | g8 (r : MR) : GfT (Str.ofString "parent") r.fs (oA r.parent)
  | g9 (r : MR) : GfT (Str.ofString "outer") r.fs (oA r.outer)
  | g10 (r : MR) : GfT (Str.ofString "methods") r.fs (.ref r.methods)
  | g11 (r : MR) : GfT (Str.ofString "constants") r.fs (.ref r.constants)
  | g12 (r : MR) : GfT (Str.ofString "mixed") r.fs (.ref r.mixed)
  | g13 (r : MR) : GfT (Str.ofString "ahead") r.fs (.ref r.ahead)
  | g14 (r : MR) : GfT (Str.ofString "attached") r.fs (oA r.attached)
  | g15 (r : MR) : GfT (Str.ofString "native") r.fs (oS r.native)
  | g16 (r : MR) : GfT (Str.ofString "kept") r.fs (oA r.kept)
  | g17 (r : WR) : GfT (Str.ofString "natives") r.fs (.ref r.natives)
  | g18 (r : WR) : GfT (Str.ofString "prelude") r.fs (.ref r.prelude)
  | g19 (r : WR) : GfT (Str.ofString "read") r.fs (.none)
  | g20 (r : WR) : GfT (Str.ofString "most") r.fs (.int r.most 0)
  | g21 (r : WR) : GfT (Str.ofString "taken") r.fs (.int 0 0)
  | g22 (r : WR) : GfT (Str.ofString "last_number") r.fs (.int r.last 0)
  | g23 (r : WR) : GfT (Str.ofString "last_ident") r.fs (.int 8 0)
  | g24 (r : WR) : GfT (Str.ofString "symbol_idents") r.fs (.ref r.syms)
  | g25 (r : WR) : GfT (Str.ofString "made") r.fs (.ref r.made)
  | g26 (r : WR) : GfT (Str.ofString "version") r.fs (.int r.version 0)
  | g27 (r : WR) : GfT (Str.ofString "const_version") r.fs (.int 0 0)
  | g28 (r : WR) : GfT (Str.ofString "globals") r.fs (.ref r.globals)
  | g29 (r : WR) : GfT (Str.ofString "out") r.fs (.ref r.out)
  | g30 (r : WR) : GfT (Str.ofString "here") r.fs (.none)
  | g31 (r : WR) : GfT (Str.ofString "is_ready") r.fs (.bool r.ready)
  | g32 (r : ER) : GfT (Str.ofString "name") r.fs (.str r.nm 0)
  | g33 (r : ER) : GfT (Str.ofString "owner") r.fs (.ref r.owner)
  | g34 (r : ER) : GfT (Str.ofString "sort") r.fs (.str r.sort 0)
  | g35 (r : ER) : GfT (Str.ofString "params") r.fs (.none)
  | g36 (r : ER) : GfT (Str.ofString "body") r.fs (.str r.body 0)
  | g37 (r : ER) : GfT (Str.ofString "sight") r.fs (.str r.sight 0)
  | g38 (r : ER) : GfT (Str.ofString "nesting") r.fs (.ref r.nesting)
  | g39 (r : ER) : GfT (Str.ofString "definer") r.fs (.none)
  | g40 (r : ER) : GfT (Str.ofString "code") r.fs (.none)
inductive SfT : Str → Value → List (Str × Value) → List (Str × Value) → Prop
  | g0 (r : MR) (u : Int) : SfT (Str.ofString "number") (.int u 0) r.fs ({ r with number := u } : MR).fs
  | g1 (r : MR) (u : Option Addr) : SfT (Str.ofString "owner") (oA u) r.fs ({ r with owner := u } : MR).fs
  | g2 (r : MR) (u : Addr) : SfT (Str.ofString "fields") (.ref u) r.fs ({ r with fields := u } : MR).fs
  | g3 (r : MR) (u : Option Addr) : SfT (Str.ofString "own") (oA u) r.fs ({ r with own := u } : MR).fs
  | g4 (r : MR) (u : Option Str) : SfT (Str.ofString "name") (oS u) r.fs ({ r with nm := u } : MR).fs
  | g5 (r : MR) (u : Bool) : SfT (Str.ofString "is_class") (.bool u) r.fs ({ r with isClass := u } : MR).fs
  | g6 (r : MR) (u : Option Addr) : SfT (Str.ofString "parent") (oA u) r.fs ({ r with parent := u } : MR).fs
  | g7 (r : MR) (u : Option Addr) : SfT (Str.ofString "outer") (oA u) r.fs ({ r with outer := u } : MR).fs
  | g8 (r : MR) (u : Addr) : SfT (Str.ofString "methods") (.ref u) r.fs ({ r with methods := u } : MR).fs
  | g9 (r : MR) (u : Addr) : SfT (Str.ofString "constants") (.ref u) r.fs ({ r with constants := u } : MR).fs
  | g10 (r : MR) (u : Addr) : SfT (Str.ofString "mixed") (.ref u) r.fs ({ r with mixed := u } : MR).fs
  | g11 (r : MR) (u : Addr) : SfT (Str.ofString "ahead") (.ref u) r.fs ({ r with ahead := u } : MR).fs
  | g12 (r : MR) (u : Option Addr) : SfT (Str.ofString "attached") (oA u) r.fs ({ r with attached := u } : MR).fs
  | g13 (r : MR) (u : Option Str) : SfT (Str.ofString "native") (oS u) r.fs ({ r with native := u } : MR).fs
  | g14 (r : MR) (u : Option Addr) : SfT (Str.ofString "kept") (oA u) r.fs ({ r with kept := u } : MR).fs
  | g15 (r : WR) (u : Addr) : SfT (Str.ofString "natives") (.ref u) r.fs ({ r with natives := u } : WR).fs
  | g16 (r : WR) (u : Addr) : SfT (Str.ofString "prelude") (.ref u) r.fs ({ r with prelude := u } : WR).fs
  | g17 (r : WR) (u : Int) : SfT (Str.ofString "most") (.int u 0) r.fs ({ r with most := u } : WR).fs
  | g18 (r : WR) (u : Int) : SfT (Str.ofString "last_number") (.int u 0) r.fs ({ r with last := u } : WR).fs
  | g19 (r : WR) (u : Addr) : SfT (Str.ofString "symbol_idents") (.ref u) r.fs ({ r with syms := u } : WR).fs
  | g20 (r : WR) (u : Addr) : SfT (Str.ofString "made") (.ref u) r.fs ({ r with made := u } : WR).fs
  | g21 (r : WR) (u : Int) : SfT (Str.ofString "version") (.int u 0) r.fs ({ r with version := u } : WR).fs
  | g22 (r : WR) (u : Addr) : SfT (Str.ofString "globals") (.ref u) r.fs ({ r with globals := u } : WR).fs
  | g23 (r : WR) (u : Addr) : SfT (Str.ofString "out") (.ref u) r.fs ({ r with out := u } : WR).fs
  | g24 (r : WR) (u : Bool) : SfT (Str.ofString "is_ready") (.bool u) r.fs ({ r with ready := u } : WR).fs
  | g25 (r : ER) (u : Str) : SfT (Str.ofString "name") (.str u 0) r.fs ({ r with nm := u } : ER).fs
  | g26 (r : ER) (u : Addr) : SfT (Str.ofString "owner") (.ref u) r.fs ({ r with owner := u } : ER).fs
  | g27 (r : ER) (u : Str) : SfT (Str.ofString "sort") (.str u 0) r.fs ({ r with sort := u } : ER).fs
  | g28 (r : ER) (u : Str) : SfT (Str.ofString "body") (.str u 0) r.fs ({ r with body := u } : ER).fs
  | g29 (r : ER) (u : Str) : SfT (Str.ofString "sight") (.str u 0) r.fs ({ r with sight := u } : ER).fs
  | g30 (r : ER) (u : Addr) : SfT (Str.ofString "nesting") (.ref u) r.fs ({ r with nesting := u } : ER).fs
  | g31 (r : MR) (u : Addr) : SfT (Str.ofString "owner") (.ref u) r.fs ({ r with owner := some u } : MR).fs
  | g32 (r : MR) (u : Addr) : SfT (Str.ofString "own") (.ref u) r.fs ({ r with own := some u } : MR).fs
  | g33 (r : MR) (u : Addr) : SfT (Str.ofString "parent") (.ref u) r.fs ({ r with parent := some u } : MR).fs
  | g34 (r : MR) (u : Addr) : SfT (Str.ofString "outer") (.ref u) r.fs ({ r with outer := some u } : MR).fs
  | g35 (r : MR) (u : Addr) : SfT (Str.ofString "attached") (.ref u) r.fs ({ r with attached := some u } : MR).fs
  | g36 (r : MR) (u : Addr) : SfT (Str.ofString "kept") (.ref u) r.fs ({ r with kept := some u } : MR).fs
  | g37 (r : MR) (u : Str) : SfT (Str.ofString "name") (.str u 0) r.fs ({ r with nm := some u } : MR).fs
  | g38 (r : MR) (u : Str) : SfT (Str.ofString "native") (.str u 0) r.fs ({ r with native := some u } : MR).fs
  | g39 (r : MR) : SfT (Str.ofString "owner") .none r.fs ({ r with owner := none } : MR).fs
  | g40 (r : MR) : SfT (Str.ofString "own") .none r.fs ({ r with own := none } : MR).fs
  | g41 (r : MR) : SfT (Str.ofString "parent") .none r.fs ({ r with parent := none } : MR).fs
  | g42 (r : MR) : SfT (Str.ofString "outer") .none r.fs ({ r with outer := none } : MR).fs
  | g43 (r : MR) : SfT (Str.ofString "attached") .none r.fs ({ r with attached := none } : MR).fs
  | g44 (r : MR) : SfT (Str.ofString "kept") .none r.fs ({ r with kept := none } : MR).fs
inductive BmT : Str → String → Prop
  | b0 : BmT (Str.ofString "append") "list.append"
  | b1 : BmT (Str.ofString "pop") "list.pop"
  | b2 : BmT (Str.ofString "extend") "list.extend"
  | b3 : BmT (Str.ofString "index") "list.index"
inductive BgT : Str → String → Prop
  | b0 : BgT (Str.ofString "append") "list.append"
  | b1 : BgT (Str.ofString "pop") "list.pop"
  | b2 : BgT (Str.ofString "extend") "list.extend"
  | b3 : BgT (Str.ofString "index") "list.index"
  | b4 : BgT (Str.ofString "get") "dict.get"
inductive IiT : Value → Bool → Prop
  | i0 : IiT (.type "bool") false
  | i1 : IiT (.type "int") false
  | i2 : IiT (.type "str") false
  | i3 : IiT (.ref 40) true
  | i4 : IiT (.ref 228) true
section
variable {x : XX} {sc : Scope}
theorem ii_of {v b} (t : IiT v b) : isiOk (gx x).K 228 v b = true := by
  induction t <;> kernel_rfl
theorem bm_slot {n i} (t : BmT n i) : Slot "list" n i ∧ typeOf (.builtin i) = pure (.type "method_descriptor") := by
  induction t with
  | b0 => exact ⟨PySem.F.slot_list_append, PySem.F.type_list_append⟩
  | b1 => exact ⟨PySem.F.slot_list_pop, PySem.F.type_list_pop⟩
  | b2 => exact ⟨PySem.F.slot_list_extend, PySem.F.type_list_extend⟩
  | b3 => exact ⟨PySem.F.slot_list_index, PySem.F.type_list_index⟩
theorem at_blT {G : GX} {n : Nat} {vm : VM} {σ : AH} {P : Value → AH → Prop} {a : Addr} {xs name id args} (h1 : σ a = some (.list xs)) (t : BmT name id) (h4 : WArgs G n sc vm args σ (PCallB G n id a P)) : PBm G n sc vm args name id P (.ref a) σ := at_bl h1 (bm_slot t).1 (bm_slot t).2 h4
theorem a_bmT {G : GX} {n : Nat} {vm : VM} {σ : AH} {P : Value → AH → Prop} {o name apos args pos} {id : String} (t : BgT name id) (hn : noStar args = true)
    (he : ∀ env, ∃ pl, eval (.Call (.Attribute o name apos) args [] pos) env = (do
      let ov ← eval o env
      standAt apos.atName
      let (f, first) ← holding [ov] (getMethod ov name pl)
      callWith pos f first (backTo pos (starEach args env)) []))
    (h : WE G n sc o vm σ (PBm G n sc vm args name id P)) : WE G n sc (.Call (.Attribute o name apos) args [] pos) vm σ P := a_bm hn he h
theorem gl_of {y v} (t : GLt y v) (h : isG sc y = true) : gvm (gx x) sc y = some v := by
  have q : nsIn (gx x).K mainGlobals y = some (some v) ∧ er v = v := by induction t <;> exact ⟨by kernel_rfl, rfl⟩
  rw [← q.2]; exact gvm_of h q.1
theorem gb_of {y v} (t : GBt y v) (h : isG sc y = true) : gvm (gx x) sc y = some v := by
  have q : nsIn (gx x).K mainGlobals y = some none ∧ bootBuiltins y = some v ∧ (y == "__name__") = false ∧ er v = v := by induction t <;> exact ⟨by kernel_rfl, by kernel_rfl, by kernel_rfl, rfl⟩
  rw [← q.2.2.2]; exact gvm_bi h q.1 q.2.1 (by simpa using q.2.2.1)
theorem mt_of {C n f} (t : MtT C n f) : methodIn (gx x).K C n f = true := by
  induction t <;> kernel_rfl
theorem no_of {n fs} (t : NoT n fs) : getF n fs = none := by
  induction t with
  | m0 r => kernel_rfl
  | _ r => rcases r with ⟨_, _, _, _, _, _, _, _, _, _, _ | _⟩ <;> kernel_rfl
theorem gf_of {n fs v} (t : GfT n fs v) : getF n fs = some v := by
  induction t <;> kernel_rfl
theorem sf_of {n v fs fs'} (t : SfT n v fs fs') : setF n v fs = fs' := by
  induction t <;> kernel_rfl
end
local macro_rules | `(tactic| walk_at "ct") => `(tactic| with_reducible constructor)
local macro_rules | `(tactic| walk_at "gl") => `(tactic| ((first | with_reducible refine gl_of (by walk_at "ct") ?_ | with_reducible refine gb_of (by walk_at "ct") ?_); kernel_rfl))
local macro_rules | `(tactic| walk_at "rd") => `(tactic| kernel_rfl)
local macro_rules | `(tactic| walk_at "st") => `(tactic| first | with_reducible assumption | kernel_rfl)
local macro_rules | `(tactic| walk_at "gf") => `(tactic| first | with_reducible assumption | with_reducible exact gf_of (by walk_at "ct"))
local macro_rules | `(tactic| walk_at "sf") => `(tactic| first | with_reducible assumption | with_reducible exact sf_of (by walk_at "ct") | with_reducible exact rfl)
local macro_rules | `(tactic| walk_at "no") => `(tactic| first | with_reducible assumption | with_reducible exact no_of (by walk_at "ct"))

local macro_rules | `(tactic| walk_at "vm") => `(tactic| first
  | with_reducible assumption
  | with_reducible exact VM.hd
  | with_reducible exact argVM_hd
  | with_reducible exact compVM_hd
  | ((with_reducible apply VM.tl); kernel_rfl; walk_at "vm")
  | ((with_reducible apply argVM_tl); kernel_rfl; walk_at "vm")
  | ((with_reducible apply argVM_nil); walk_at "gl")
  | ((with_reducible apply compVM_cell); kernel_rfl; walk_at "vm")
  | ((with_reducible apply compVM_gl); kernel_rfl; walk_at "gl"))
local macro_rules | `(tactic| walk_at "fr") => `(tactic| first
  | with_reducible assumption
  | ((with_reducible apply upd_none); walk_at "ne"; walk_at "fr"))
local macro_rules | `(tactic| walk_at "ne") => `(tactic| first
  | with_reducible assumption
  | ((with_reducible apply Ne.symm); with_reducible assumption)
  | ((with_reducible apply ne_of_none_some); (with_reducible assumption); walk_at "hp")
  | ((with_reducible apply Ne.symm); (with_reducible apply ne_of_none_some); (with_reducible assumption); walk_at "hp")
  | ((with_reducible apply ne_kd); (with_reducible assumption); walk_at "hp"; with_unfolding_all exact rfl))
local macro_rules | `(tactic| walk_at "hp") => `(tactic| first
  | with_reducible assumption
  | with_reducible exact upd_same _ _ _
  | ((with_reducible apply upd_old); walk_at "fr"; walk_at "hp")
  | ((with_reducible apply upd_at); walk_at "ne"; walk_at "hp")
  | ((with_reducible apply Ext.at_); (with_reducible assumption); walk_at "hp"))
local macro_rules | `(tactic| walk_at "ex") => `(tactic| first
  | with_reducible assumption
  | with_reducible exact Ext.refl _
  | ((with_reducible apply Ext.upd'); rotate_left; (with_reducible assumption); walk_at "ex")
  | ((with_reducible apply Ext.upd); rotate_left; walk_at "fr"; walk_at "ex")
  | ((with_reducible apply Ext.trans); rotate_left; (with_reducible assumption); walk_at "ex"))
local macro_rules | `(tactic| walk_at "len") => `(tactic| first
  | with_reducible assumption
  | with_reducible exact MR.len _
  | with_reducible exact WR.len _
  | with_reducible exact ER.len _
  | ((with_reducible apply of_decide_eq_true); kernel_rfl))
local macro_rules | `(tactic| walk_at "hs") => `(tactic| k_dflt (intro _; exact rfl))
local macro_rules | `(tactic| walk_at "hm") => `(tactic| k_dflt (intro _; exact ⟨_, rfl⟩))

local macro_rules | `(tactic| walk_at "ar") => `(tactic| first | with_reducible assumption | k_dflt exact rfl)
local macro_rules | `(tactic| walk_at "m0") => `(tactic| first | (with_reducible first | refine WE.cStr ?_ | refine WE.cInt ?_ | refine WE.cNone ?_ | refine WE.cBool ?_) | ((with_reducible apply WE.name); walk_at "vm") | ((with_reducible apply a_attr); walk_at "hs") | ((with_reducible refine a_bmT (by walk_at "ct") ?_ ?_ ?_); kernel_rfl; walk_at "hm") | ((with_reducible first | apply a_tinit | apply a_meth); kernel_rfl; walk_at "hm") | ((with_reducible apply a_call); kernel_rfl; walk_at "hs") | ((with_reducible first | apply a_tuple | apply a_list); kernel_rfl) | (with_reducible apply a_binop) | ((with_reducible apply a_compare); kernel_rfl) | (with_reducible apply a_ifExp) | ((with_reducible apply a_sub); k_dflt exact rfl) | (with_reducible first | apply a_and | apply a_or | apply WE.boolOne | apply a_not))
local macro_rules | `(tactic| walk_at "m1") => `(tactic| first | ((with_reducible apply a_assign); kernel_rfl; walk_at "hs") | ((with_reducible first | apply a_expr | apply a_setAttr | apply a_setItem); walk_at "hs") | (with_reducible first | apply a_if | apply a_ret | apply WSt.cont | apply WSt.brk | apply a_aug) | ((with_reducible apply a_unpack2); kernel_rfl; walk_at "hs"; walk_at "hs"))
local macro_rules | `(tactic| walk_at "m2") => `(tactic| (with_reducible first | apply a_seq | apply WS.nil))
local macro_rules | `(tactic| walk_at "m3") => `(tactic| (with_reducible first | apply wargs_cons | apply wargs_nil))
local macro_rules | `(tactic| walk_at "m4") => `(tactic| first | ((with_reducible apply a_tcompare); kernel_rfl) | (with_reducible first | apply a_tand | apply WT.andNil | apply a_tor | apply WT.orNil | apply a_tnot | apply a_tifExp) | ((with_reducible apply a_plain); kernel_rfl))
local macro_rules | `(tactic| walk_at "m5") => `(tactic| first | ((with_reducible first | apply WCall.append | apply WCall.pop); walk_at "hp"; walk_at "len") | ((with_reducible first | apply WCall.isinstT | apply WCall.isinstC); walk_at "hp"; with_reducible exact ii_of (by walk_at "ct")) | ((with_reducible first | apply getS_nil | apply getSD_nil); walk_at "hp") | ((with_reducible first | apply getS_some); walk_at "hp"; with_reducible assumption) | ((with_reducible first | apply getS_none); walk_at "hp"; with_reducible assumption) | ((with_reducible first | apply WCall.getS | apply WCall.getSD); walk_at "hp"))
local macro_rules | `(tactic| walk_at "m6") => `(tactic| first | (with_reducible first | apply Cmp.is_ | apply Cmp.isNot | apply Cmp.eqStr | apply Cmp.neStr | apply Cmp.eqInt | apply Cmp.neInt | apply Cmp.ltInt | apply Cmp.gtInt) | ((with_reducible first | apply Cmp.inI | apply Cmp.notInI | apply Cmp.inS); walk_at "hp"))
local macro_rules | `(tactic| walk_at "m") => `(tactic| first | ((with_reducible refine (?_ : WE _ _ _ _ _ _ _)); walk_at "m0") | ((with_reducible refine (?_ : WSt _ _ _ _ _ _ _)); walk_at "m1") | ((with_reducible refine (?_ : WS _ _ _ _ _ _ _)); walk_at "m2") | ((with_reducible refine (?_ : WArgs _ _ _ _ _ _ _)); walk_at "m3") | ((with_reducible refine (?_ : WT _ _ _ _ _ _ _)); walk_at "m4") | ((with_reducible refine (?_ : WCall _ _ _ _ _ _)); walk_at "m5") | ((with_reducible refine (?_ : Cmp _ _ _ _ _ _ _)); walk_at "m6") | ((with_reducible apply at_attr'); walk_at "hp"; walk_at "rd"; walk_at "gf"; (first | exact rfl | exact oA_hand _ | exact oS_hand _)) | (with_reducible first | apply at_callB | apply at_callT) | ((with_reducible apply at_callR); kernel_rfl) | ((with_reducible first | apply at_ifF | apply iteF | apply whF); walk_at "ar") | ((with_reducible first | apply at_ifT | apply iteT | apply whT); walk_at "ar") | ((with_reducible first | apply a_newT | apply a_newL); walk_at "len") | ((with_reducible apply at_unp2); walk_at "hp") | (with_reducible first | apply at_sw2 | apply at_sw3) | ((with_reducible first | apply at_set' | apply at_aug2); walk_at "hp"; walk_at "st"; walk_at "sf"; walk_at "len") | ((with_reducible apply at_aug); walk_at "hp"; walk_at "rd"; walk_at "gf") | ((with_reducible first | apply at_ii | apply at_si | apply Tr.list); walk_at "hp"; walk_at "len") | ((with_reducible apply at_blT); walk_at "hp"; walk_at "ct") | ((with_reducible apply at_bd); walk_at "hp"; (with_reducible exact PySem.F.slot_dict_get); with_reducible exact PySem.F.type_dict_get) | ((with_reducible apply at_meth); walk_at "hp"; (with_reducible exact mt_of (by walk_at "ct")); walk_at "no") | (with_reducible first | apply at_self | apply Bin.addInt | apply Tr.tBool | apply wifs_nil | apply wifs_one | apply Tr.tNone | refine at_ret (by assumption) ?_ | refine at_retS ?_ | refine at_retW ?_ | refine at_retF ?_ | refine at_nxt (by assumption) ?_))
local macro_rules | `(tactic| walk_at "hs2") => `(tactic| k_dflt (intro _ _; exact rfl))
local macro_rules | `(tactic| walk_at "sw") => `(tactic| (intro env he; cases env; dsimp only at he; subst he; kernel_rfl))
-- P1
section
variable {x : XX} {n : Nat} {σ : AH}
abbrev Md (σ : AH) (a : Addr) (r : MR) : Prop := σ a = some (.inst 228 r.fs)
theorem sort_of_thing {a : Addr} {fs : List (Str × Value)} (ha : σ a = some (.inst 228 fs)) : WCode (gx x) 1 267 [.ref a] σ fun v σ' => v = .str (Str.ofString "thing") 0 ∧ σ = σ' := by
  refine WCode.ofP fk_267_1 rfl fun Pq hPq => ?_
  change WS _ _ _ (_ :: _) (argVM _ _ [(_, _)]) _ _
  repeat walk_at "m"
  exact rfl
theorem same_spec {a b : Addr} {r q : MR} (ha : Md σ a r) (hb : Md σ b q) : WCode (gx x) 2 274 [.ref a, .ref b] σ fun v σ' => v = .bool (r.number == q.number) ∧ σ = σ' := by
  refine WCode.ofP fk_274_2 rfl fun Pq hPq => ?_
  change WS _ _ _ (_ :: _) (argVM _ _ [(_, _), (_, _)]) _ _
  repeat walk_at "m"
  refine callc (sort_of_thing ha) (by decide) ?_
  rintro _ _ ⟨rfl, rfl⟩
  repeat walk_at "m"
  refine callc (sort_of_thing hb) (by decide) ?_
  rintro _ _ ⟨rfl, rfl⟩
  repeat walk_at "m"
  exact rfl
theorem is_own_spec {a : Addr} {r : MR} (ha : Md σ a r) : WCode (gx x) 1 225 [.ref a] σ fun v σ' => v = .bool (!isN (oA r.attached)) ∧ σ = σ' := by
  refine WCode.ofP fk_225_1 rfl fun Pq hPq => ?_
  change WS _ _ _ (_ :: _) (argVM _ _ [(_, _)]) _ _
  repeat walk_at "m"
  exact rfl
theorem number_spec {w : Addr} {r : WR} (hw : σ w = some (.inst 870 r.fs)) : WCode (gx x) 1 630 [.ref w] σ fun v σ' => v = .int (r.last + 1) 0 ∧ σ' = upd σ w (.inst 870 ({ r with last := r.last + 1 } : WR).fs) := by
  refine WCode.ofP fk_630_1 rfl fun Pq hPq => ?_
  change WS _ _ _ (_ :: _) (argVM _ _ [(_, _)]) _ _
  repeat walk_at "m"
  exact rfl
theorem raise_version_spec {w : Addr} {r : WR} (hw : σ w = some (.inst 870 r.fs)) : WCode (gx x) 1 473 [.ref w] σ fun v σ' => σ' = upd σ w (.inst 870 ({ r with version := r.version + 1 } : WR).fs) := by
  refine WCode.ofP fk_473_1 rfl fun Pq hPq => ?_
  change WS _ _ _ (_ :: _) (argVM _ _ [(_, _)]) _ _
  repeat walk_at "m"
  exact rfl
theorem class_above_spec {a : Addr} {r : MR} (ha : Md σ a r) : WCode (gx x) 1 494 [.ref a] σ fun v σ' => v = (if r.isClass then oA r.parent else .none) ∧ σ = σ' := by
  refine WCode.ofP fk_494_1 rfl fun Pq hPq => ?_
  change WS _ _ _ (_ :: _) (argVM _ _ [(_, _)]) _ _
  repeat walk_at "m"
  cases h : r.isClass
  · repeat walk_at "m"
    exact ⟨by simp [h], rfl⟩
  · repeat walk_at "m"
    exact ⟨by simp [h], rfl⟩
end
-- P2
section
variable {x : XX} {n : Nat} {σ : AH}
theorem thing_init {z : Addr} {C : Addr} {num : Int} {ow : Option Addr} (hz : σ z = none) (hC : C = 228 ∨ C = 40) : WCode (gx x) 1 37 [.ref z, .int num 0, oA ow] (upd σ z (.inst C [])) fun v σ' => v = .none ∧
    ∃ f, σ f = none ∧ Ext σ σ' ∧ σ' z = some (.inst C [(Str.ofString "number", .int num 0), (Str.ofString "owner", oA ow), (Str.ofString "fields", .ref f), (Str.ofString "own", .none), (Str.ofString "frozen", .bool false), (Str.ofString "ident", .none)]) ∧ σ' f = some (.idict []) := by
  have s1 : storable (gx x).K C (Str.ofString "number") = true := by rcases hC with rfl | rfl <;> first | exact st_228_number | exact st_40_number
  have s2 : storable (gx x).K C (Str.ofString "owner") = true := by rcases hC with rfl | rfl <;> first | exact st_228_owner | exact st_40_owner
  have s3 : storable (gx x).K C (Str.ofString "fields") = true := by rcases hC with rfl | rfl <;> first | exact st_228_fields | exact st_40_fields
  have s4 : storable (gx x).K C (Str.ofString "own") = true := by rcases hC with rfl | rfl <;> first | exact st_228_own | exact st_40_own
  have s5 : storable (gx x).K C (Str.ofString "frozen") = true := by rcases hC with rfl | rfl <;> first | exact st_228_frozen | exact st_40_frozen
  have s6 : storable (gx x).K C (Str.ofString "ident") = true := by rcases hC with rfl | rfl <;> first | exact st_228_ident | exact st_40_ident
  refine WCode.ofP fk_37_3 rfl fun Pq hPq => ?_
  change WS _ _ _ (_ :: _) (argVM _ _ [(_, _), (_, _), (_, _)]) _ _
  repeat walk_at "m"
  refine WE.idict fun f hf => ?_
  repeat walk_at "m"
  exact ⟨f, Ext.none (by walk_at "ex") hf, by walk_at "ex", upd_same _ _ _, by walk_at "hp"⟩
structure NewMod (σ σ' : AH) (z : Addr) (r : MR) : Prop where
  ext : Ext σ σ'
  fz : σ z = none
  at_ : Md σ' z r
  fm : σ r.methods = none
  fx : σ r.mixed = none
  fa : σ r.ahead = none
  m : σ' r.methods = some (.sdict [])
  xs : σ' r.mixed = some (.list [])
  ys : σ' r.ahead = some (.list [])
  xy : r.mixed ≠ r.ahead
theorem module_body {z : Addr} {num : Int} {ow : Option Addr} {nm : Option Str} {b : Bool} {pa ou : Option Addr} (hz : σ z = none) :
    WS (gx x) 1 (sf x 218) (bf x 218) (argVM (gx x) (sf x 218) [(Str.ofString "self", .ref z), (Str.ofString "number", .int num 0), (Str.ofString "owner", oA ow), (Str.ofString "name", oS nm), (Str.ofString "is_class", .bool b), (Str.ofString "parent", oA pa), (Str.ofString "outer", oA ou)])
      (upd σ z (.inst 228 [])) fun fl vm σ' => (fl = .next) ∧ ∃ f m c xx yy, NewMod σ σ' z ⟨num, ow, f, none, nm, b, pa, ou, m, c, xx, yy, none, none, none⟩ := by
  change WS _ _ _ (_ :: _) _ _ _
  repeat walk_at "m"
  refine callc (thing_init hz (.inl rfl)) (by decide) ?_
  rintro _ σ' ⟨rfl, f, hf, e1, h1, h2⟩
  repeat walk_at "m"
  refine WE.sdict fun m hm => ?_
  repeat walk_at "m"
  refine WE.sdict fun c hc => ?_
  repeat walk_at "m"
  intro xx hxx
  repeat walk_at "m"
  intro yy hyy
  repeat walk_at "m"
  exact ⟨rfl, f, m, c, xx, yy, by walk_at "ex", hz, (upd_same _ _ _).trans (by kernel_rfl), Ext.none (by walk_at "ex") hm, Ext.none (by walk_at "ex") hxx, Ext.none (by walk_at "ex") hyy,
    by walk_at "hp", by walk_at "hp", by walk_at "hp", (ne_of_none_some hyy (by walk_at "hp")).symm⟩
theorem module_init7 {z : Addr} {num : Int} {ow : Option Addr} {nm : Option Str} {b : Bool} {pa ou : Option Addr} (hz : σ z = none) :
    WCode (gx x) 2 218 [.ref z, .int num 0, oA ow, oS nm, .bool b, oA pa, oA ou] (upd σ z (.inst 228 [])) fun v σ' => v = .none ∧ ∃ f m c xx yy, NewMod σ σ' z ⟨num, ow, f, none, nm, b, pa, ou, m, c, xx, yy, none, none, none⟩ := by
  refine WCode.of fk_218_7 rfl ((module_body hz).mono ?_)
  rintro _ _ _ ⟨rfl, h⟩
  exact ⟨rfl, h⟩
theorem module_init5 {z : Addr} {num : Int} {ow : Option Addr} {nm : Option Str} {b : Bool} (hz : σ z = none) :
    WCode (gx x) 2 218 [.ref z, .int num 0, oA ow, oS nm, .bool b] (upd σ z (.inst 228 [])) fun v σ' => v = .none ∧ ∃ f m c xx yy, NewMod σ σ' z ⟨num, ow, f, none, nm, b, none, none, m, c, xx, yy, none, none, none⟩ := by
  refine WCode.of fk_218_5 rfl ((module_body (pa := none) (ou := none) hz).mono ?_)
  rintro _ _ _ ⟨rfl, h⟩
  exact ⟨rfl, h⟩
theorem new_ModuleThing7 {num : Int} {ow : Option Addr} {nm : Option Str} {b : Bool} {pa ou : Option Addr} :
    WCall (gx x) 3 (.ref 228) [.int num 0, oA ow, oS nm, .bool b, oA pa, oA ou] σ fun v σ' => ∃ z f m c xx yy, v = .ref z ∧ NewMod σ σ' z ⟨num, ow, f, none, nm, b, pa, ou, m, c, xx, yy, none, none, none⟩ :=
  callk (k := 2) (P₀ := fun v σ' => ∃ z f m c xx yy, v = .ref z ∧ NewMod σ σ' z ⟨num, ow, f, none, nm, b, pa, ou, m, c, xx, yy, none, none, none⟩) ck_228
    (fun z hz => (module_init7 hz).mono fun v σ' h => by obtain ⟨e, f, m, c, xx, yy, h⟩ := h; exact ⟨e, z, f, m, c, xx, yy, rfl, h⟩) (by decide) fun v σ' h => h
theorem new_ModuleThing5 {num : Int} {ow : Option Addr} {nm : Option Str} {b : Bool} :
    WCall (gx x) 3 (.ref 228) [.int num 0, oA ow, oS nm, .bool b] σ fun v σ' => ∃ z f m c xx yy, v = .ref z ∧ NewMod σ σ' z ⟨num, ow, f, none, nm, b, none, none, m, c, xx, yy, none, none, none⟩ :=
  callk (k := 2) (P₀ := fun v σ' => ∃ z f m c xx yy, v = .ref z ∧ NewMod σ σ' z ⟨num, ow, f, none, nm, b, none, none, m, c, xx, yy, none, none, none⟩) ck_228
    (fun z hz => (module_init5 hz).mono fun v σ' h => by obtain ⟨e, f, m, c, xx, yy, h⟩ := h; exact ⟨e, z, f, m, c, xx, yy, rfl, h⟩) (by decide) fun v σ' h => h
theorem new_Thing {num : Int} {ow : Option Addr} :
    WCall (gx x) 2 (.ref 40) [.int num 0, oA ow] σ fun v σ' => ∃ z, v = .ref z ∧ σ z = none ∧ Ext σ σ' :=
  callk (k := 1) (P₀ := fun v σ' => ∃ z, v = .ref z ∧ σ z = none ∧ Ext σ σ') ck_40
    (fun z hz => (thing_init hz (.inr rfl)).mono fun v σ' h => by obtain ⟨e, f, _, h, _⟩ := h; exact ⟨e, z, rfl, hz, h⟩) (by decide) fun v σ' h => h
theorem entry_init {z : Addr} {nm so bo : Str} {ow : Addr} (hz : σ z = none) :
    WCode (gx x) 1 245 [.ref z, .str nm 0, .ref ow, .str so 0, .none, .str bo 0] (upd σ z (.inst 256 [])) fun v σ' => v = .none ∧ ∃ t, Ext σ σ' ∧ σ' z = some (.inst 256 (ER.fs ⟨nm, ow, so, bo, Str.ofString "public", t⟩)) := by
  refine WCode.ofP fk_245_6 rfl fun Pq hPq => ?_
  change WS _ _ _ (_ :: _) (argVM _ _ [(_, _), (_, _), (_, _), (_, _), (_, _), (_, _), (_, _)]) _ _
  repeat walk_at "m"
  intro t ht
  repeat walk_at "m"
  exact ⟨t, by walk_at "ex", (upd_same _ _ _).trans (by kernel_rfl)⟩
theorem new_Entry {nm so bo : Str} {ow : Addr} :
    WCall (gx x) 2 (.ref 256) [.str nm 0, .ref ow, .str so 0, .none, .str bo 0] σ fun v σ' => ∃ z t, v = .ref z ∧ σ z = none ∧ Ext σ σ' ∧ σ' z = some (.inst 256 (ER.fs ⟨nm, ow, so, bo, Str.ofString "public", t⟩)) :=
  callk (k := 1) (P₀ := fun v σ' => ∃ z t, v = .ref z ∧ σ z = none ∧ Ext σ σ' ∧ σ' z = some (.inst 256 (ER.fs ⟨nm, ow, so, bo, Str.ofString "public", t⟩))) ck_256
    (fun z hz => (entry_init hz).mono fun v σ' h => by obtain ⟨e, t, h1, h2⟩ := h; exact ⟨e, z, t, rfl, hz, h1, h2⟩) (by decide) fun v σ' h => h
theorem NewMod.set {σ' : AH} {z : Addr} {r r' : MR} (h : NewMod σ σ' z r) (e : r'.methods = r.methods ∧ r'.mixed = r.mixed ∧ r'.ahead = r.ahead) : NewMod σ (upd σ' z (.inst 228 r'.fs)) z r' := by
  obtain ⟨e1, e2, e3⟩ := e
  have a1 := h.at_
  have n1 := ne_kd h.m a1 rfl
  have n2 := ne_kd h.xs a1 rfl
  have n3 := ne_kd h.ys a1 rfl
  exact ⟨Ext.upd' h.ext h.fz, h.fz, upd_same _ _ _, by rw [e1]; exact h.fm, by rw [e2]; exact h.fx, by rw [e3]; exact h.fa, by rw [e1]; exact upd_at n1 h.m, by rw [e2]; exact upd_at n2 h.xs, by rw [e3]; exact upd_at n3 h.ys, by rw [e2, e3]; exact h.xy⟩
end
-- P3
section
variable {x : XX} {n : Nat} {σ : AH}
structure Wd (σ : AH) (w : Addr) (r : WR) (kvs : List (Str × Value)) : Prop where
  at_ : σ w = some (.inst 870 r.fs)
  made : σ r.made = some (.sdict kvs)
  nat : σ r.natives = some (.sdict [])
  pre : σ r.prelude = some (.sdict [])
theorem builtin_spec {w a : Addr} {r : WR} {kvs : List (Str × Value)} {nm : Str} (h1 : σ w = some (.inst 870 r.fs)) (h2 : σ r.made = some (.sdict kvs)) (hv : valueAt kvs nm = some (.ref a)) : WCode (gx x) 1 651 [.ref w, .str nm 0] σ fun v σ' => v = .ref a ∧ σ = σ' := by
  refine WCode.ofP fk_651_2 rfl fun Pq hPq => ?_
  change WS _ _ _ (_ :: _) (argVM _ _ [(_, _), (_, _)]) _ _
  repeat walk_at "m"
  rfl
theorem new_module_body {w : Addr} {r : WR} {kvs : List (Str × Value)} {cl md : Addr} {nm : Option Str} {b : Bool} {pa at_ : Option Addr} (h1 : σ w = some (.inst 870 r.fs)) (h2 : σ r.made = some (.sdict kvs)) (hc : valueAt kvs (Str.ofString "Class") = some (.ref cl)) (hm : valueAt kvs (Str.ofString "Module") = some (.ref md))
    (hb : (b = false ∧ pa = none) ∨ (b = true ∧ ∃ p, pa = some p)) :
    WS (gx x) 4 (sf x 671) (bf x 671) (argVM (gx x) (sf x 671) [(Str.ofString "self", .ref w), (Str.ofString "name", oS nm), (Str.ofString "is_class", .bool b), (Str.ofString "parent", oA pa), (Str.ofString "outer", .none), (Str.ofString "attached", oA at_)])
      σ fun fl vm σ' => ∃ z f m c xx yy, fl = .ret (.ref z) ∧ NewMod (upd σ w (.inst 870 ({ r with last := r.last + 1 } : WR).fs)) σ' z ⟨r.last + 1, some (if b then cl else md), f, none, nm, b, pa, none, m, c, xx, yy, at_, none, none⟩ := by
  change WS _ _ _ (_ :: _) _ _ _
  rcases hb with ⟨rfl, rfl⟩ | ⟨rfl, p, rfl⟩
  · repeat walk_at "m"
    refine callc (k := 1) (builtin_spec h1 h2 hm) (by decide) ?_
    rintro _ _ ⟨rfl, rfl⟩
    repeat walk_at "m"
    refine callc (number_spec h1) (by decide) ?_
    rintro _ _ ⟨rfl, rfl⟩
    repeat walk_at "m"
    refine ((new_ModuleThing7 (ow := some md) (pa := none) (ou := none)).le (by decide)).mono ?_
    rintro _ σ' ⟨z, f, m, c, xx, yy, rfl, hN⟩
    have hz := hN.at_
    repeat walk_at "m"
    exact ⟨z, f, m, c, xx, yy, rfl, hN.set ⟨rfl, rfl, rfl⟩⟩
  · repeat walk_at "m"
    refine callc (k := 1) (builtin_spec h1 h2 hc) (by decide) ?_
    rintro _ _ ⟨rfl, rfl⟩
    repeat walk_at "m"
    refine callc (number_spec h1) (by decide) ?_
    rintro _ _ ⟨rfl, rfl⟩
    repeat walk_at "m"
    refine ((new_ModuleThing7 (ow := some cl) (pa := some p) (ou := none)).le (by decide)).mono ?_
    rintro _ σ' ⟨z, f, m, c, xx, yy, rfl, hN⟩
    have hz := hN.at_
    repeat walk_at "m"
    exact ⟨z, f, m, c, xx, yy, rfl, hN.set ⟨rfl, rfl, rfl⟩⟩
abbrev NewM (σ σ' : AH) (w : Addr) (r : WR) (ow : Addr) (nm : Option Str) (b : Bool) (pa at_ : Option Addr) (v : Value) : Prop :=
  ∃ z f m c xx yy, v = .ref z ∧ NewMod (upd σ w (.inst 870 ({ r with last := r.last + 1 } : WR).fs)) σ' z ⟨r.last + 1, some ow, f, none, nm, b, pa, none, m, c, xx, yy, at_, none, none⟩
theorem new_module3 {w : Addr} {r : WR} {kvs : List (Str × Value)} {cl md : Addr} {nm : Option Str} (h1 : σ w = some (.inst 870 r.fs)) (h2 : σ r.made = some (.sdict kvs)) (hc : valueAt kvs (Str.ofString "Class") = some (.ref cl)) (hm : valueAt kvs (Str.ofString "Module") = some (.ref md)) :
    WCode (gx x) 5 671 [.ref w, oS nm, .bool false] σ fun v σ' => NewM σ σ' w r md nm false none none v := by
  refine WCode.of fk_671_3 rfl ((new_module_body (pa := none) (at_ := none) (b := false) h1 h2 hc hm (.inl ⟨rfl, rfl⟩)).mono ?_)
  rintro _ _ σ' ⟨z, f, m, c, xx, yy, rfl, h⟩
  exact ⟨z, f, m, c, xx, yy, rfl, h⟩
theorem new_module4 {w p : Addr} {r : WR} {kvs : List (Str × Value)} {cl md : Addr} {nm : Option Str} (h1 : σ w = some (.inst 870 r.fs)) (h2 : σ r.made = some (.sdict kvs)) (hc : valueAt kvs (Str.ofString "Class") = some (.ref cl)) (hm : valueAt kvs (Str.ofString "Module") = some (.ref md)) :
    WCode (gx x) 5 671 [.ref w, oS nm, .bool true, .ref p] σ fun v σ' => NewM σ σ' w r cl nm true (some p) none v := by
  refine WCode.of fk_671_4 rfl ((new_module_body (pa := some p) (at_ := none) (b := true) h1 h2 hc hm (.inr ⟨rfl, p, rfl⟩)).mono ?_)
  rintro _ _ σ' ⟨z, f, m, c, xx, yy, rfl, h⟩
  exact ⟨z, f, m, c, xx, yy, rfl, h⟩
theorem new_module6 {w p a : Addr} {r : WR} {kvs : List (Str × Value)} {cl md : Addr} {nm : Option Str} (h1 : σ w = some (.inst 870 r.fs)) (h2 : σ r.made = some (.sdict kvs)) (hc : valueAt kvs (Str.ofString "Class") = some (.ref cl)) (hm : valueAt kvs (Str.ofString "Module") = some (.ref md)) :
    WCode (gx x) 5 671 [.ref w, oS nm, .bool true, .ref p, .none, .ref a] σ fun v σ' => NewM σ σ' w r cl nm true (some p) (some a) v := by
  refine WCode.of fk_671_6 rfl ((new_module_body (pa := some p) (at_ := some a) (b := true) h1 h2 hc hm (.inr ⟨rfl, p, rfl⟩)).mono ?_)
  rintro _ _ σ' ⟨z, f, m, c, xx, yy, rfl, h⟩
  exact ⟨z, f, m, c, xx, yy, rfl, h⟩
theorem class_of_module {w a : Addr} {q : MR} {ow : Addr} (ha : Md σ a q) (ho : q.owner = some ow) : WCode (gx x) 1 678 [.ref w, .ref a] σ fun v σ' => v = .ref ow ∧ σ = σ' := by
  have hg : getF (Str.ofString "owner") q.fs = some (.ref ow) := by rw [MR.get_owner, ho]; rfl
  refine WCode.ofP fk_678_2 rfl fun Pq hPq => ?_
  change WS _ _ _ (_ :: _) (argVM _ _ [(_, _), (_, _)]) _ _
  repeat walk_at "m"
  rfl
theorem need_unfrozen_spec {w a : Addr} {q : MR} (ha : Md σ a q) (hh : q.attached = none ∨ ∃ b q', q.attached = some b ∧ Md σ b q') : WCode (gx x) 1 480 [.ref w, .ref a] σ fun v σ' => σ = σ' := by
  refine WCode.ofP fk_480_2 rfl fun Pq hPq => ?_
  change WS _ _ _ (_ :: _) (argVM _ _ [(_, _), (_, _)]) _ _
  rcases hh with hh | ⟨b, q', hh, hb⟩
  · have hg : getF (Str.ofString "attached") q.fs = some .none := by rw [MR.get_attached, hh]; rfl
    repeat walk_at "m"
    rfl
  · have hg : getF (Str.ofString "attached") q.fs = some (.ref b) := by rw [MR.get_attached, hh]; rfl
    repeat walk_at "m"
    rfl
theorem define_spec {w a e : Addr} {q : MR} {r : WR} {kvs : List (Str × Value)} {er : ER} (ha : Md σ a q) (hh : q.attached = none ∨ ∃ b q', q.attached = some b ∧ Md σ b q') (hw : σ w = some (.inst 870 r.fs)) (hm : σ q.methods = some (.sdict kvs)) (he : σ e = some (.inst 256 er.fs)) (hl : kvs.length ≤ 100000) :
    WCode (gx x) 2 508 [.ref w, .ref a, .ref e] σ fun v σ' => σ' = upd (upd σ q.methods (.sdict (stored kvs er.nm (.ref e)))) w (.inst 870 ({ r with version := r.version + 1 } : WR).fs) := by
  refine WCode.ofP fk_508_3 rfl fun Pq hPq => ?_
  change WS _ _ _ (_ :: _) (argVM _ _ [(_, _), (_, _), (_, _)]) _ _
  repeat walk_at "m"
  refine callc (k := 1) (need_unfrozen_spec ha hh) (by decide) ?_
  rintro _ _ rfl
  repeat walk_at "m"
  refine callc (k := 1) (raise_version_spec (r := r) (by walk_at "hp")) (by decide) ?_
  rintro _ _ rfl
  repeat walk_at "m"
  rfl
end
-- P4
section
variable {x : XX} {n : Nat} {σ : AH}
def Ns (nu : Addr → Int) (σ : AH) (ms : List Addr) : Prop := ∀ a ∈ ms, ∃ r, Md σ a r ∧ r.number = nu a
inductive HT1 (nu : Addr → Int) (ms : List Addr) (q : MR) (b : Addr) (σ : AH) (k : Nat) (vm : VM) (σ' : AH) : Prop
  | mk : σ = σ' → vm (Str.ofString "one") = some (.ref b) → vm (Str.ofString "same") = some (.ref 274) → (ms.take k).any (fun a => nu a == q.number) = false → HT1 nu ms q b σ k vm σ'
theorem has_thing_spec {nu : Addr → Int} {l b : Addr} {ms : List Addr} {q : MR} (hl : σ l = some (.list (ms.map .ref))) (hm : Ns nu σ ms) (hb : Md σ b q) : WCode (gx x) 3 388 [.ref l, .ref b] σ fun v σ' => v = .bool (ms.any fun a => nu a == q.number) ∧ σ = σ' := by
  refine WCode.ofP fk_388_2 rfl fun Pq hPq => ?_
  change WS _ _ _ (_ :: _) (argVM _ _ [(_, _), (_, _)]) _ _
  walk_at "m"
  refine WSt.forList (by kernel_rfl) (by walk_at "hs2") ?_
  repeat walk_at "m"
  refine ⟨l, _, rfl, hl, Turns.of (HT1 nu ms q b σ) ⟨rfl, by walk_at "vm", by walk_at "vm", by simp⟩ ?_ ?_ ?_⟩
  · rintro k vm σ' ⟨rfl, _⟩
    exact hl
  · rintro k y vm σ' hy ⟨rfl, h1, h2, h3⟩
    obtain ⟨a, ha, rfl⟩ := ref_get hy
    obtain ⟨r, hr, hn⟩ := hm a (mem_of_get ha)
    repeat walk_at "m"
    refine callc (k := 2) (same_spec hr hb) (by decide) ?_
    rintro _ _ ⟨rfl, rfl⟩
    repeat walk_at "m"
    cases h : r.number == q.number
    · repeat walk_at "m"
      refine ⟨rfl, by walk_at "vm", by walk_at "vm", ?_⟩
      rw [take_succ' ha, List.any_append, h3]
      simp [← hn, h]
    · repeat walk_at "m"
      refine ⟨?_, rfl⟩
      have : (ms.any fun a => nu a == q.number) = true := List.any_eq_true.mpr ⟨a, mem_of_get ha, by rw [← hn]; exact h⟩
      rw [this]
  · rintro vm σ' ⟨rfl, h1, h2, h3⟩
    rw [List.length_map, List.take_length] at h3
    repeat walk_at "m"
    exact ⟨by rw [h3], rfl⟩
def nd (l : List Int) : List (Int × Value) := l.foldl (fun ys i => stored ys i (.bool true)) []
theorem nd_snoc (l : List Int) (i : Int) : nd (l ++ [i]) = stored (nd l) i (.bool true) := by simp [nd]
theorem nd_has' (l : List Int) (i : Int) : ∀ acc : List (Int × Value), (valueAt (l.foldl (fun ys i => stored ys i (.bool true)) acc) i).isSome = ((valueAt acc i).isSome || l.contains i) := by
  induction l with
  | nil => intro acc; simp
  | cons j l ih =>
    intro acc
    rw [List.foldl_cons, ih, valueAt_stored]
    by_cases h : i = j
    · subst h; simp
    · rw [if_neg h, List.contains_cons, show (i == j) = false by simpa using h]; simp
theorem nd_has (l : List Int) (i : Int) : (valueAt (nd l) i).isSome = l.contains i := by rw [nd, nd_has']; simp [valueAt]
theorem numbered_spec {nu : Addr → Int} {l : Addr} {ms : List Addr} (hl : σ l = some (.list (ms.map .ref))) (hm : Ns nu σ ms) (hz : ms.length ≤ 100000) : WCode (gx x) 1 398 [.ref l] σ fun v σ' => ∃ D, v = .ref D ∧ σ D = none ∧ σ' = upd σ D (.idict (nd (ms.map nu))) := by
  refine WCode.ofP fk_398_1 rfl fun Pq hPq => ?_
  change WS _ _ _ (_ :: _) (argVM _ _ [(_, _)]) _ _
  repeat walk_at "m"
  refine WE.dictComp [] ⟨by kernel_rfl⟩ (by intro y hy; cases hy) (WIt.list ?_) (by walk_at "hs2")
  repeat walk_at "m"
  refine ⟨l, _, rfl, hl, by rw [List.length_map]; exact hz, fun k ys σ' => σ = σ' ∧ ys = nd ((ms.take k).map nu), ⟨rfl, by simp [nd]⟩, ?_, ?_, ?_⟩
  · rintro k vm σ' ⟨rfl, _⟩
    exact hl
  · rintro k y ys σ' hy ⟨rfl, rfl⟩
    obtain ⟨a, ha, rfl⟩ := ref_get hy
    obtain ⟨r, hr, hn⟩ := hm a (mem_of_get ha)
    repeat walk_at "m"
    refine ⟨r.number, rfl, ?_⟩
    repeat walk_at "m"
    exact ⟨rfl, by rw [take_succ' ha, List.map_append, List.map_cons, List.map_nil, nd_snoc, hn]⟩
  · rintro ys σ' D ⟨rfl, rfl⟩ hD
    rw [List.length_map, List.take_length]
    exact hPq.ret _ _ _ ⟨D, rfl, hD, rfl⟩
end
-- P5
section
variable {x : XX} {n : Nat} {σ : AH}
/-- the walk of own_line, as a plain machine -/
inductive Go (nu : Addr → Int) (mx ah : Addr → List Addr) (T : Addr → Prop) : Nat → List (Int × Value) → List Addr → List (Addr × Bool) → List Addr → Prop
  | done {k kn fd} : Go nu mx ah T k kn fd [] fd
  | opened {k kn fd a stk res} : fd.length ≤ 50000 → Go nu mx ah T k kn (fd ++ [a]) stk res → Go nu mx ah T (k + 1) kn fd (stk ++ [(a, true)]) res
  | seen {k kn fd a stk res} : T a → (valueAt kn (nu a)).isSome = true → Go nu mx ah T k kn fd stk res → Go nu mx ah T (k + 1) kn fd (stk ++ [(a, false)]) res
  | new {k kn fd a stk res} : T a → (valueAt kn (nu a)).isSome = false → kn.length ≤ 50000 → stk.length + (mx a).length + (ah a).length ≤ 50000 →
      Go nu mx ah T k (stored kn (nu a) (.bool true)) fd (stk ++ (mx a).map (·, false) ++ [(a, true)] ++ (ah a).map (·, false)) res → Go nu mx ah T (k + 1) kn fd (stk ++ [(a, false)]) res
structure Tb (nu : Addr → Int) (mx ah : Addr → List Addr) (σ : AH) (a : Addr) (r : MR) : Prop where
  at_ : Md σ a r
  num : r.number = nu a
  mx : σ r.mixed = some (.list ((mx a).map .ref))
  ah : σ r.ahead = some (.list ((ah a).map .ref))
theorem map_snoc {α β} {f : α → β} {l : List α} {m : List β} {b : β} (h : l.map f = m ++ [b]) : ∃ l' a, l = l' ++ [a] ∧ l'.map f = m ∧ f a = b := by
  obtain ⟨l1, l2, rfl, h1, h2⟩ := List.map_eq_append_iff.mp h
  match l2, h2 with
  | [a], h2 => exact ⟨l1, a, rfl, h1, by simpa using h2⟩
abbrev Q3 := Addr × Addr × Bool
def Q3s (σ : AH) (qs : List Q3) : Prop := ∀ p ∈ qs, σ p.1 = some (.tup [.ref p.2.1, .bool p.2.2])
theorem Q3s.ext {σ σ' : AH} {qs : List Q3} (h : Q3s σ qs) (e : Ext σ σ') : Q3s σ' qs := fun p hp => e _ _ (h p hp)
theorem pairs_comp {sc cs : Scope} {vm : VM} {P : Value → AH → Prop} {attr p1 p2 k2 kk p3 p5 px pos} {e : Expr} {l : Addr} {xs : List Addr} (ck : CompK cs sc (Str.ofString "other") [])
    (hs : ∀ env z, foldedSetIterable (.Attribute e attr p5) env z = pure z)
    (h : WE (gx x) n sc (.Attribute e attr p5) vm σ fun v σ₁ => v = .ref l ∧ σ = σ₁) (hl : σ l = some (.list (xs.map .ref))) (hz : xs.length ≤ 50000)
    (hp : ∀ D σ' qs, Ext σ σ' → σ' D = none → qs.map (·.2) = xs.map (·, false) → Q3s σ' qs → P (.ref D) (upd σ' D (.list (qs.map fun p : Q3 => .ref p.1)))) :
    WE (gx x) n sc (.ListComp (.Tuple [.Name (Str.ofString "other") p1, .Constant (.bool false) k2 p2] kk p3) [⟨.Name (Str.ofString "other") px, .Attribute e attr p5, [], 0⟩] cs pos) vm σ P := by
  refine WE.listComp [] ck (by intro y hy; cases hy) (WIt.list (h.mono ?_)) hs
  rintro _ _ ⟨rfl, rfl⟩
  refine ⟨l, _, rfl, hl, by rw [List.length_map]; omega, fun k ys σ' => ∃ qs : List Q3, ys = qs.map (fun p => .ref p.1) ∧ qs.map (·.2) = (xs.take k).map (·, false) ∧ Q3s σ' qs ∧ Ext σ σ', ⟨[], rfl, by simp, (by intro p hp; cases hp), Ext.refl _⟩, ?_, ?_, ?_⟩
  · rintro k ys σ' ⟨qs, _, _, _, e⟩
    exact e _ _ hl
  · rintro k y ys σ' hy ⟨qs, rfl, h2, h3, h4⟩
    obtain ⟨a, ha, rfl⟩ := ref_get hy
    repeat walk_at "m"
    intro t ht
    refine ⟨qs ++ [(t, a, false)], by simp, by rw [take_succ' ha]; simp [h2], ?_, by walk_at "ex"⟩
    intro p hp
    rcases List.mem_append.mp hp with hp | hp
    · exact upd_old ht (h3 p hp)
    · rw [List.mem_singleton.mp hp]; exact upd_same _ _ _
  · rintro ys σ' D ⟨qs, rfl, h2, h3, h4⟩ hD
    rw [List.length_map, List.take_length] at h2
    exact hp D σ' qs h4 hD h2 h3
inductive OL1 (nu : Addr → Int) (mx ah : Addr → List Addr) (T : Addr → Prop) (res : List Addr) (fa ka wa : Addr) (σ : AH) (k : Nat) (vm : VM) (σ' : AH) : Prop
  | mk (kn : List (Int × Value)) (fd : List Addr) (qs : List Q3) : Go nu mx ah T k kn fd (qs.map (·.2)) res → Ext σ σ' → vm (Str.ofString "found") = some (.ref fa) → vm (Str.ofString "known") = some (.ref ka) → vm (Str.ofString "waiting") = some (.ref wa) →
    σ' fa = some (.list (fd.map .ref)) → σ' ka = some (.idict kn) → σ' wa = some (.list (qs.map fun p => .ref p.1)) → Q3s σ' qs → qs.length ≤ 60000 → OL1 nu mx ah T res fa ka wa σ k vm σ'
theorem own_line_spec {nu : Addr → Int} {mx ah : Addr → List Addr} {T : Addr → Prop} {k : Nat} {m : Addr} {res : List Addr} (hT : ∀ a, T a → ∃ r, Tb nu mx ah σ a r) (hg : Go nu mx ah T k [] [] [(m, false)] res) :
    WCode (gx x) 1 393 [.ref m] σ fun v σ' => ∃ D, v = .ref D ∧ σ D = none ∧ Ext σ σ' ∧ σ' D = some (.list (res.map .ref)) := by
  refine WCode.ofP fk_393_1 rfl fun Pq hPq => ?_
  change WS _ _ _ (_ :: _) (argVM _ _ [(_, _)]) _ _
  walk_at "m"
  refine a_swap3 (a := Str.ofString "found") (b := Str.ofString "known") (c := Str.ofString "waiting") (by kernel_rfl) (by kernel_rfl) (by walk_at "hs") (by walk_at "sw") ?_
  repeat walk_at "m"
  intro fa hfa
  repeat walk_at "m"
  refine WE.idict fun ka hka => ?_
  repeat walk_at "m"
  intro t0 ht0
  repeat walk_at "m"
  intro wa hwa
  repeat walk_at "m"
  have nfw : fa ≠ wa := by walk_at "ne"
  have gk : σ ka = none := Ext.none (by walk_at "ex") hka
  have gw : σ wa = none := Ext.none (by walk_at "ex") hwa
  refine WSt.whileP (OL1 nu mx ah T res fa ka wa σ) k ?_ ?_
  · refine ⟨[], [], [(t0, m, false)], hg, by walk_at "ex", by walk_at "vm", by walk_at "vm", by walk_at "vm", (by show _ = some (AO.list []); walk_at "hp"), by walk_at "hp", (by show _ = some (AO.list [.ref t0]); walk_at "hp"), ?_, by simp⟩
    intro p hp
    rw [List.mem_singleton.mp hp]
    show _ = some (AO.tup [.ref m, .bool false])
    walk_at "hp"
  · rintro k vm σ' ⟨kn, fd, qs, hg, he, v1, v2, v3, h1, h2, h3, h4, h5⟩
    have hl5 : (qs.map fun p : Q3 => Value.ref p.1).length ≤ 100000 := by rw [List.length_map]; omega
    repeat walk_at "m"
    generalize hq : qs.map (·.2) = stk at hg
    cases hg with
    | done =>
      obtain rfl : qs = [] := by simpa using hq
      repeat walk_at "m"
      exact ⟨fa, rfl, hfa, he, h1⟩
    | @opened k _ _ a stk _ hz hg =>
      obtain ⟨qs, ⟨t, a', b'⟩, rfl, rfl, e⟩ := map_snoc hq
      cases e
      refine iteT (by simp) ?_
      rw [List.map_append] at h3
      have ht : σ' t = some (.tup [.ref a, .bool true]) := h4 (t, a, true) (by simp)
      have hz' : (fd.map Value.ref).length ≤ 100000 := by rw [List.length_map]; omega
      repeat walk_at "m"
      refine WCall.pop (xs := qs.map fun p : Q3 => Value.ref p.1) (y := .ref t) h3 (by rw [List.length_map]; simp at h5; omega) ?_
      repeat walk_at "m"
      exact ⟨k, Nat.lt_succ_self k, kn, fd ++ [a], qs, hg, by walk_at "ex", by walk_at "vm", by walk_at "vm", by walk_at "vm", (by rw [List.map_append]; exact upd_same _ _ _), by walk_at "hp", by walk_at "hp",
        (fun p hp => by have := h4 p (by simp [hp]); walk_at "hp"), (by simp at h5; omega)⟩
    | @seen k _ _ a stk _ hT' hs hg =>
      obtain ⟨qs, ⟨t, a', b'⟩, rfl, rfl, e⟩ := map_snoc hq
      cases e
      refine iteT (by simp) ?_
      rw [List.map_append] at h3
      have ht : σ' t = some (.tup [.ref a, .bool false]) := h4 (t, a, false) (by simp)
      obtain ⟨q, tb⟩ := hT a hT'
      have hq1 := tb.at_
      rw [← tb.num] at hs
      repeat walk_at "m"
      refine WCall.pop (xs := qs.map fun p : Q3 => Value.ref p.1) (y := .ref t) h3 (by rw [List.length_map]; simp at h5; omega) ?_
      repeat walk_at "m"
      refine iteF (by rw [hs]; rfl) ?_
      repeat walk_at "m"
      exact ⟨k, Nat.lt_succ_self k, kn, fd, qs, hg, by walk_at "ex", by walk_at "vm", by walk_at "vm", by walk_at "vm", by walk_at "hp", by walk_at "hp", by walk_at "hp",
        (fun p hp => by have := h4 p (by simp [hp]); walk_at "hp"), (by simp at h5; omega)⟩
    | @new k _ _ a stk _ hT' hs hz1 hz2 hg =>
      obtain ⟨qs, ⟨t, a', b'⟩, rfl, rfl, e⟩ := map_snoc hq
      cases e
      refine iteT (by simp) ?_
      rw [List.map_append] at h3
      have ht : σ' t = some (.tup [.ref a, .bool false]) := h4 (t, a, false) (by simp)
      obtain ⟨q, tb⟩ := hT a hT'
      have hq1 := tb.at_
      have hq2 := tb.mx
      have hq3 := tb.ah
      rw [← tb.num] at hs hg
      rw [List.length_map] at hz2
      have hz1' : kn.length ≤ 100000 := by omega
      repeat walk_at "m"
      refine WCall.pop (xs := qs.map fun p : Q3 => Value.ref p.1) (y := .ref t) h3 (by rw [List.length_map]; simp at h5; omega) ?_
      repeat walk_at "m"
      refine iteT (by rw [hs]; rfl) ?_
      repeat walk_at "m"
      refine pairs_comp (l := q.mixed) (xs := mx a) ⟨by kernel_rfl⟩ (by walk_at "hs2") ?_ (by walk_at "hp") (by omega) ?_
      · repeat walk_at "m"
        rfl
      intro D1 σ1 qs1 e1 hD1 eq1 hQ1
      have l1 : qs1.length = (mx a).length := by simpa using congrArg List.length eq1
      have g1 : σ1 wa = some (.list (qs.map fun p : Q3 => .ref p.1)) := e1 _ _ (by walk_at "hp")
      have g2 : σ1 ka = some (.idict (stored kn q.number (.bool true))) := e1 _ _ (by walk_at "hp")
      have g3 : σ1 fa = some (.list (fd.map .ref)) := e1 _ _ (by walk_at "hp")
      have g4 : Q3s σ1 qs := fun p hp => e1 _ _ (by have := h4 p (by simp [hp]); walk_at "hp")
      have he1 : Ext σ σ1 := Ext.trans (by walk_at "ex") e1
      have z1 : ((qs.map fun p : Q3 => Value.ref p.1) ++ qs1.map fun p : Q3 => Value.ref p.1).length ≤ 100000 := by simp; omega
      repeat walk_at "m"
      refine WCall.extend (by walk_at "hp") (upd_same _ _ _) (by walk_at "ne") (by simp; omega) ?_
      repeat walk_at "m"
      intro t2 ht2
      repeat walk_at "m"
      generalize hσ2 : upd (upd (upd (upd σ1 D1 _) wa _) t2 _) wa _ = σ2
      have he2 : Ext σ σ2 := by rw [← hσ2]; walk_at "ex"
      have f1 : σ2 wa = some (.list ((qs.map fun p : Q3 => Value.ref p.1) ++ (qs1.map fun p : Q3 => Value.ref p.1) ++ [.ref t2])) := by rw [← hσ2]; walk_at "hp"
      have f2 : σ2 ka = some (.idict (stored kn q.number (.bool true))) := by rw [← hσ2]; walk_at "hp"
      have f3 : σ2 fa = some (.list (fd.map .ref)) := by rw [← hσ2]; walk_at "hp"
      have f4 : Q3s σ2 qs := fun p hp => by have := g4 p hp; rw [← hσ2]; walk_at "hp"
      have f5 : Q3s σ2 qs1 := fun p hp => by have := hQ1 p hp; rw [← hσ2]; walk_at "hp"
      have f6 : σ2 t2 = some (.tup [.ref a, .bool true]) := by rw [← hσ2]; walk_at "hp"
      clear hσ2
      refine pairs_comp (l := q.ahead) (xs := ah a) ⟨by kernel_rfl⟩ (by walk_at "hs2") ?_ (by walk_at "hp") (by omega) ?_
      · repeat walk_at "m"
        rfl
      intro D2 σ3 qs2 e2 hD2 eq2 hQ2
      have l2 : qs2.length = (ah a).length := by simpa using congrArg List.length eq2
      have he3 : Ext σ σ3 := Ext.trans he2 e2
      have k1 := e2 _ _ f1
      have k2 := e2 _ _ f2
      have k3 := e2 _ _ f3
      have k4 := f4.ext e2
      have k5 := f5.ext e2
      have k6 := e2 _ _ f6
      repeat walk_at "m"
      refine WCall.extend (by walk_at "hp") (upd_same _ _ _) (by walk_at "ne") (by simp; omega) ?_
      repeat walk_at "m"
      refine ⟨k, Nat.lt_succ_self k, stored kn q.number (.bool true), fd, qs ++ qs1 ++ [(t2, a, true)] ++ qs2, ?_, by walk_at "ex", by walk_at "vm", by walk_at "vm", by walk_at "vm", by walk_at "hp", by walk_at "hp", ?_, ?_, ?_⟩
      · simpa [eq1, eq2] using hg
      · simpa using upd_same _ _ _
      · intro p hp
        simp only [List.mem_append, List.mem_singleton] at hp
        rcases hp with ((hp | hp) | rfl) | hp
        · have := k4 p hp; walk_at "hp"
        · have := k5 p hp; walk_at "hp"
        · have : σ3 t2 = some (.tup [.ref a, .bool true]) := k6
          show _ = some (AO.tup [.ref a, .bool true])
          walk_at "hp"
        · have := hQ2 p hp; walk_at "hp"
      · simp; omega
end
-- P6
section
variable {x : XX} {n : Nat} {σ : AH}
theorem Ns.ext {nu : Addr → Int} {σ σ' : AH} {ms : List Addr} (h : Ns nu σ ms) (e : Ext σ σ') : Ns nu σ' ms := fun a ha => let ⟨r, h1, h2⟩ := h a ha; ⟨r, e _ _ h1, h2⟩
theorem Tb.ext {nu : Addr → Int} {mx ah : Addr → List Addr} {σ σ' : AH} {a : Addr} {r : MR} (h : Tb nu mx ah σ a r) (e : Ext σ σ') : Tb nu mx ah σ' a r := ⟨e _ _ h.at_, h.num, e _ _ h.mx, e _ _ h.ah⟩
theorem made_line_plain {nu : Addr → Int} {mx ah : Addr → List Addr} {m bl : Addr} {r : MR} {bs : List Addr} (hm : Tb nu mx ah σ m r) (hx : mx m = []) (ha : ah m = []) (hb : σ bl = some (.list (bs.map .ref))) (hz : bs.length ≤ 50000) :
    WCode (gx x) 4 403 [.ref m, .ref bl] σ fun v σ' => ∃ D, v = .ref D ∧ σ D = none ∧ Ext σ σ' ∧ σ' D = some (.list ((m :: bs).map .ref)) := by
  have h1 := hm.at_
  have h2 := hm.mx
  have h3 := hm.ah
  rw [hx] at h2
  rw [ha] at h3
  rw [List.map_nil] at h2 h3
  refine WCode.ofP fk_403_2 rfl fun Pq hPq => ?_
  change WS _ _ _ (_ :: _) (argVM _ _ [(_, _), (_, _)]) _ _
  repeat walk_at "m"
  intro D1 hD1
  repeat walk_at "m"
  refine Cmp.eqListNil (by walk_at "hp") (by walk_at "hp") ?_
  repeat walk_at "m"
  intro D2 hD2
  repeat walk_at "m"
  refine Cmp.eqListNil (by walk_at "hp") (by walk_at "hp") ?_
  repeat walk_at "m"
  intro D3 hD3
  repeat walk_at "m"
  refine Bin.addList (by walk_at "hp") (by walk_at "hp") (by simp; omega) fun D4 hD4 => ?_
  repeat walk_at "m"
  exact ⟨D4, rfl, Ext.none (by walk_at "ex") hD4, by walk_at "ex", upd_same _ _ _⟩
inductive MM1 (nu : Addr → Int) (bs L : List Addr) (m bl LA K F : Addr) (σ : AH) (k : Nat) (vm : VM) (σ' : AH) : Prop
  | mk (b : Bool) : Ext σ σ' → σ' LA = some (.list (L.map .ref)) → σ' K = some (.idict (nd (bs.map nu))) → σ' F = some (.list ((L.take k).map .ref)) → vm (Str.ofString "module") = some (.ref m) → vm (Str.ofString "behind") = some (.ref bl) →
    vm (Str.ofString "known") = some (.ref K) → vm (Str.ofString "found") = some (.ref F) → vm (Str.ofString "same") = some (.ref 274) → vm (Str.ofString "numbered") = some (.ref 398) → vm (Str.ofString "is_ahead") = some (.bool b) → MM1 nu bs L m bl LA K F σ k vm σ'
theorem made_line_mixed {nu : Addr → Int} {mx ah : Addr → List Addr} {T : Addr → Prop} {k : Nat} {m bl : Addr} {r : MR} {L bs : List Addr} (hm : Tb nu mx ah σ m r) (hx : mx m ≠ []) (ha : ah m = []) (hT : ∀ a, T a → ∃ r, Tb nu mx ah σ a r)
    (hg : Go nu mx ah T k [] [] [(m, false)] L) (hL : Ns nu σ L) (hB : Ns nu σ bs) (hd : ∀ a ∈ L, ∀ b ∈ bs, nu a ≠ nu b)
    (hb : σ bl = some (.list (bs.map .ref))) (hz : bs.length + L.length ≤ 50000) :
    WCode (gx x) 4 403 [.ref m, .ref bl] σ fun v σ' => ∃ D, v = .ref D ∧ σ D = none ∧ Ext σ σ' ∧ σ' D = some (.list ((L ++ bs).map .ref)) := by
  have h1 := hm.at_
  have h2 := hm.mx
  have h3 := hm.ah
  rw [ha] at h3
  rw [List.map_nil] at h3
  refine WCode.ofP fk_403_2 rfl fun Pq hPq => ?_
  change WS _ _ _ (_ :: _) (argVM _ _ [(_, _), (_, _)]) _ _
  repeat walk_at "m"
  intro D1 hD1
  repeat walk_at "m"
  refine Cmp.eqListNil (by walk_at "hp") (by walk_at "hp") ?_
  repeat walk_at "m"
  intro D2 hD2
  repeat walk_at "m"
  refine Cmp.eqListLen (xs := (mx m).map .ref) (ys := []) (by walk_at "hp") (by walk_at "hp") (by simpa using hx) ?_
  repeat walk_at "m"
  generalize hσ1 : upd (upd σ D1 _) D2 _ = σ1
  have e1 : Ext σ σ1 := by rw [← hσ1]; walk_at "ex"
  clear hσ1 hD2
  refine a_swap3 (a := Str.ofString "known") (b := Str.ofString "found") (c := Str.ofString "is_ahead") (by kernel_rfl) (by kernel_rfl) (by walk_at "hs") (by walk_at "sw") ?_
  repeat walk_at "m"
  refine callc (k := 1) (numbered_spec (e1 _ _ hb) (hB.ext e1) (by omega)) (by decide) ?_
  rintro _ _ ⟨K, rfl, hK, rfl⟩
  repeat walk_at "m"
  intro F hF
  repeat walk_at "m"
  refine WSt.forList (by kernel_rfl) (by walk_at "hs2") ?_
  repeat walk_at "m"
  have e2 : Ext σ (upd (upd σ1 K (AO.idict (nd (bs.map nu)))) F (AO.list [])) := by walk_at "ex"
  refine callc (k := 1) (own_line_spec (fun a h => let ⟨r, t⟩ := hT a h; ⟨r, t.ext e2⟩) hg) (by decide) ?_
  rintro _ σ2 ⟨LA, rfl, hLA, e3, hLA'⟩
  have k1 : σ2 K = some (.idict (nd (bs.map nu))) := e3 _ _ (by walk_at "hp")
  have k2 : σ2 F = some (.list []) := e3 _ _ (upd_same _ _ _)
  have e4 : Ext σ σ2 := e2.trans e3
  have nF : F ≠ LA := fun q => by rw [← q, upd_same] at hLA; cases hLA
  have fF : σ F = none := Ext.none (by walk_at "ex") hF
  clear e3 hLA e2 hK hF e1
  refine ⟨LA, _, rfl, hLA', Turns.of (MM1 nu bs L m bl LA K F σ)
    ⟨true, e4, hLA', k1, (by simpa using k2), by walk_at "vm", by walk_at "vm", by walk_at "vm", by walk_at "vm", by walk_at "vm", by walk_at "vm", by walk_at "vm"⟩ ?_ ?_ ?_⟩
  · rintro k vm σ' ⟨_, _, h, _⟩
    exact h
  · rintro k y vm σ' hy ⟨b, e, s1, s2, s3, v1, v2, v3, v4, v5, v6, v7⟩
    obtain ⟨a, hk, rfl⟩ := ref_get hy
    obtain ⟨q, hq, hn⟩ := (hL.ext e) a (mem_of_get hk)
    have h1' := e _ _ h1
    have hz3 : ((L.take k).map Value.ref).length ≤ 100000 := by simp; omega
    have hno : (valueAt (nd (bs.map nu)) q.number).isSome = false := by
      rw [nd_has, hn]
      cases h : (bs.map nu).contains (nu a) with
      | false => rfl
      | true =>
        obtain ⟨b, hb1, hb2⟩ := List.mem_map.mp (List.contains_iff_mem.mp h)
        exact absurd hb2.symm (hd a (mem_of_get hk) b hb1)
    cases b
    · repeat walk_at "m"
      refine iteT (by rw [hno]; rfl) ?_
      repeat walk_at "m"
      exact ⟨_, by walk_at "ex", by walk_at "hp", by walk_at "hp", (by rw [take_succ' hk, List.map_append]; exact upd_same _ _ _), by walk_at "vm", by walk_at "vm", by walk_at "vm", by walk_at "vm", by walk_at "vm", by walk_at "vm", by walk_at "vm"⟩
    · repeat walk_at "m"
      refine callc (k := 2) (same_spec hq h1') (by decide) ?_
      rintro _ _ ⟨rfl, rfl⟩
      repeat walk_at "m"
      cases hs : q.number == r.number
      · repeat walk_at "m"
        exact ⟨_, by walk_at "ex", by walk_at "hp", by walk_at "hp", (by rw [take_succ' hk, List.map_append]; exact upd_same _ _ _), by walk_at "vm", by walk_at "vm", by walk_at "vm", by walk_at "vm", by walk_at "vm", by walk_at "vm", by walk_at "vm"⟩
      · repeat walk_at "m"
        refine iteT (by rw [hno]; rfl) ?_
        repeat walk_at "m"
        exact ⟨_, by walk_at "ex", by walk_at "hp", by walk_at "hp", (by rw [take_succ' hk, List.map_append]; exact upd_same _ _ _), by walk_at "vm", by walk_at "vm", by walk_at "vm", by walk_at "vm", by walk_at "vm", by walk_at "vm", by walk_at "vm"⟩
  · rintro vm σ' ⟨b, e, s1, s2, s3, v1, v2, v3, v4, v5, v6, v7⟩
    rw [List.length_map, List.take_length] at s3
    repeat walk_at "m"
    refine callc (k := 1) (numbered_spec s3 (hL.ext e) (by omega)) (by decide) ?_
    rintro _ _ ⟨M, rfl, hM, rfl⟩
    repeat walk_at "m"
    have b1 := e _ _ hb
    refine WE.listComp [Str.ofString "moved"] ⟨by kernel_rfl⟩ (by intro y hy; rw [List.mem_singleton.mp hy, VM.hd]; rfl) (WIt.list ?_) (by walk_at "hs2")
    repeat walk_at "m"
    refine ⟨bl, _, rfl, upd_old hM b1, by rw [List.length_map]; omega, fun k ys σ'' => σ'' = upd σ' M (AO.idict (nd (L.map nu))) ∧ ys = (bs.take k).map .ref, ⟨rfl, by simp⟩, ?_, ?_, ?_⟩
    · rintro k ys σ'' ⟨rfl, _⟩
      exact upd_old hM b1
    · rintro k y ys σ'' hy ⟨rfl, rfl⟩
      obtain ⟨a, hk, rfl⟩ := ref_get hy
      obtain ⟨q, hq, hn⟩ := (hB.ext e) a (mem_of_get hk)
      have hno : (valueAt (nd (L.map nu)) q.number).isSome = false := by
        rw [nd_has, hn]
        cases h : (L.map nu).contains (nu a) with
        | false => rfl
        | true =>
          obtain ⟨b, hb1, hb2⟩ := List.mem_map.mp (List.contains_iff_mem.mp h)
          exact absurd hb2 (hd b hb1 a (mem_of_get hk))
      repeat walk_at "m"
      refine iteT (by rw [hno]; rfl) ?_
      repeat walk_at "m"
      exact ⟨rfl, by rw [take_succ' hk, List.map_append]; rfl⟩
    · rintro ys σ'' D ⟨rfl, rfl⟩ hD
      rw [List.length_map, List.take_length]
      refine Bin.addList (by walk_at "hp") (upd_same _ _ _) (by simp; omega) fun D4 hD4 => ?_
      rw [← List.map_append]
      repeat walk_at "m"
      exact ⟨D4, rfl, Ext.none (by walk_at "ex") hD4, by walk_at "ex", upd_same _ _ _⟩
end
-- P7
section
variable {x : XX} {n : Nat} {σ : AH}
/-- all stands, but for what the modules keep -/
structure Km (σ σ' : AH) : Prop where
  md : ∀ a r, Md σ a r → ∃ k, Md σ' a { r with kept := k }
  ot : ∀ a o, σ a = some o → (∀ fs, o ≠ .inst 228 fs) → σ' a = some o
  no : ∀ a, σ' a = none → σ a = none
theorem Km.of_ext {σ σ' : AH} (e : Ext σ σ') : Km σ σ' := ⟨fun a r h => ⟨r.kept, e _ _ h⟩, fun a o h _ => e _ _ h, fun a h => Ext.none e h⟩
theorem Km.trans {σ σ' σ'' : AH} (h : Km σ σ') (h' : Km σ' σ'') : Km σ σ'' :=
  ⟨fun a r hr => let ⟨_, h1⟩ := h.md a r hr; let ⟨k', h2⟩ := h'.md a _ h1; ⟨k', h2⟩, fun a o ho hn => h'.ot a o (h.ot a o ho hn) hn, fun a ha => h.no a (h'.no a ha)⟩
theorem Km.set {σ : AH} {a : Addr} {r : MR} {k : Option Addr} (h : Md σ a r) : Km σ (upd σ a (.inst 228 ({ r with kept := k } : MR).fs)) := by
  refine ⟨fun b q hq => ?_, fun b o ho hn => ?_, fun b hb => ?_⟩
  · by_cases e : b = a
    · subst e
      have e2 : some (AO.inst 228 q.fs) = some (AO.inst 228 r.fs) := hq.symm.trans h
      injection e2 with e2; injection e2 with _ e2
      obtain rfl := MR.inj e2
      exact ⟨k, upd_same _ _ _⟩
    · exact ⟨q.kept, upd_at e hq⟩
  · refine upd_at (fun e => ?_) ho
    subst e
    exact hn r.fs (Option.some.inj (ho.symm.trans h))
  · by_cases e : b = a
    · rw [e, upd_same] at hb; cases hb
    · rwa [upd_ne _ _ e] at hb
theorem Km.list {σ σ' : AH} (h : Km σ σ') {a : Addr} {xs} (ha : σ a = some (.list xs)) : σ' a = some (.list xs) := h.ot _ _ ha (by simp)
theorem Km.tup {σ σ' : AH} (h : Km σ σ') {a : Addr} {xs} (ha : σ a = some (.tup xs)) : σ' a = some (.tup xs) := h.ot _ _ ha (by simp)
theorem Km.sdict {σ σ' : AH} (h : Km σ σ') {a : Addr} {xs} (ha : σ a = some (.sdict xs)) : σ' a = some (.sdict xs) := h.ot _ _ ha (by simp)
theorem Km.world {σ σ' : AH} (h : Km σ σ') {a : Addr} {xs} (ha : σ a = some (.inst 870 xs)) : σ' a = some (.inst 870 xs) := h.ot _ _ ha (by intro fs e; injection e with e; simp at e)
theorem Km.entry {σ σ' : AH} (h : Km σ σ') {a : Addr} {xs} (ha : σ a = some (.inst 256 xs)) : σ' a = some (.inst 256 xs) := h.ot _ _ ha (by intro fs e; injection e with e; simp at e)
theorem Km.tb {nu : Addr → Int} {mx ah : Addr → List Addr} {σ σ' : AH} (h : Km σ σ') {a : Addr} {r : MR} (t : Tb nu mx ah σ a r) : ∃ k, Tb nu mx ah σ' a { r with kept := k } :=
  let ⟨k, hk⟩ := h.md a r t.at_; ⟨k, hk, t.num, h.list t.mx, h.list t.ah⟩
theorem Km.ns {nu : Addr → Int} {σ σ' : AH} (h : Km σ σ') {ms : List Addr} (t : Ns nu σ ms) : Ns nu σ' ms := fun a ha => let ⟨r, h1, h2⟩ := t a ha; let ⟨k, hk⟩ := h.md a r h1; ⟨_, hk, h2⟩
def Stale (σ : AH) (ver : Int) : Option Addr → Prop
  | none => True
  | some t => ∃ v l, σ t = some (.tup [.int v 0, .ref l]) ∧ v ≠ ver
structure OwnL (nu : Addr → Int) (mx ah : Addr → List Addr) (T : Addr → Prop) (a : Addr) (L : List Addr) : Prop where
  ahn : ah a = []
  own : (mx a = [] ∧ L = [a]) ∨ (mx a ≠ [] ∧ ∃ k, Go nu mx ah T k [] [] [(a, false)] L)
theorem made_line_spec {nu : Addr → Int} {mx ah : Addr → List Addr} {T : Addr → Prop} {m bl : Addr} {r : MR} {L bs : List Addr} (hm : Tb nu mx ah σ m r) (ho : OwnL nu mx ah T m L) (hT : ∀ a, T a → ∃ r, Tb nu mx ah σ a r)
    (hL : Ns nu σ L) (hB : Ns nu σ bs) (hd : mx m ≠ [] → ∀ a ∈ L, ∀ b ∈ bs, nu a ≠ nu b) (hb : σ bl = some (.list (bs.map .ref))) (hz : bs.length + L.length ≤ 50000) :
    WCode (gx x) 4 403 [.ref m, .ref bl] σ fun v σ' => ∃ D, v = .ref D ∧ σ D = none ∧ Ext σ σ' ∧ σ' D = some (.list ((L ++ bs).map .ref)) := by
  rcases ho.own with ⟨h1, rfl⟩ | ⟨h1, k, hg⟩
  · exact made_line_plain (bs := bs) hm h1 ho.ahn hb (by simp at hz; omega)
  · exact made_line_mixed hm h1 ho.ahn hT hg hL hB (hd h1) hb hz
abbrev lines (ow : Addr → List Addr) (ch : List (Addr × MR)) : List Addr := ch.flatMap fun p => ow p.1
def hd? : List (Addr × MR) → Option Addr
  | [] => none
  | p :: _ => some p.1
structure El (nu : Addr → Int) (mx ah : Addr → List Addr) (T : Addr → Prop) (ow : Addr → List Addr) (σ : AH) (ver : Int) (a : Addr) (r : MR) (rest : List (Addr × MR)) : Prop where
  tb : Tb nu mx ah σ a r
  st : Stale σ ver r.kept
  pa : r.parent = hd? rest
  ol : OwnL nu mx ah T a (ow a)
  dj : mx a ≠ [] → ∀ c ∈ ow a, ∀ b ∈ lines ow rest, nu c ≠ nu b
structure Lo (S : List Addr) (ver : Int) (σ σ' : AH) : Prop where
  km : Km σ σ'
  out : ∀ a r, a ∉ S → Md σ a r → Md σ' a r
  inn : ∀ a r, a ∈ S → Md σ a r → ∃ t l, Md σ' a { r with kept := some t } ∧ σ' t = some (.tup [.int ver 0, .ref l])
theorem rev_get {ch pre suf : List (Addr × MR)} {y : Value} (e : ch = pre ++ suf) (h : ((ch.map fun p => Value.ref p.1).reverse)[suf.length]? = some y) : ∃ pre' a r, pre = pre' ++ [(a, r)] ∧ y = .ref a := by
  subst e
  rw [List.map_append, List.reverse_append, List.getElem?_append_right (by simp)] at h
  rcases List.eq_nil_or_concat pre with rfl | ⟨p, ⟨a, r⟩, rfl⟩
  · simp at h
  · exact ⟨p, a, r, List.concat_eq_append, by simpa using h.symm⟩
inductive LS1 (ch : List (Addr × MR)) (w wa : Addr) (σ : AH) (k : Nat) (vm : VM) (σ' : AH) : Prop
  | mk (pre suf : List (Addr × MR)) : ch = pre ++ suf → k = suf.length → vm (Str.ofString "module") = some (oA (hd? suf)) → vm (Str.ofString "world") = some (.ref w) → vm (Str.ofString "waiting") = some (.ref wa) → vm (Str.ofString "made_line") = some (.ref 403) → vm (Str.ofString "reversed") = some (.type "reversed") →
    Ext σ σ' → σ' wa = some (.list (pre.map fun p => .ref p.1)) → LS1 ch w wa σ k vm σ'
inductive LS2 (ow : Addr → List Addr) (pre : List (Addr × MR)) (w wa : Addr) (ver : Int) (σ : AH) (k : Nat) (vm : VM) (σ' : AH) : Prop
  | mk (pre' suf : List (Addr × MR)) (D : Addr) : pre = pre' ++ suf → k = suf.length → vm (Str.ofString "world") = some (.ref w) → vm (Str.ofString "made_line") = some (.ref 403) → vm (Str.ofString "line") = some (.ref D) → σ D = none →
      σ' D = some (.list ((lines ow suf).map .ref)) → σ' wa = some (.list (pre.map fun p => .ref p.1)) → Lo (suf.map (·.1)) ver σ σ' →
      (∀ a r rest, suf = (a, r) :: rest → ∃ t, Md σ' a { r with kept := some t } ∧ σ' t = some (.tup [.int ver 0, .ref D])) → LS2 ow pre w wa ver σ k vm σ'
theorem line_of_stale {nu : Addr → Int} {mx ah : Addr → List Addr} {T : Addr → Prop} {ow : Addr → List Addr} {w : Addr} {wr : WR} {ch : List (Addr × MR)} (hw : σ w = some (.inst 870 wr.fs))
    (hT : ∀ a, T a → ∃ r, Tb nu mx ah σ a r) (hE : ∀ pre a r rest, ch = pre ++ (a, r) :: rest → El nu mx ah T ow σ wr.version a r rest) (hN : Ns nu σ (lines ow ch)) (hnd : (ch.map (·.1)).Nodup) (hz : ch.length ≤ 50000) (hz2 : (lines ow ch).length ≤ 50000) :
    WCode (gx x) 5 410 [.ref w, oA (hd? ch)] σ fun v σ' => ∃ D, v = .ref D ∧ σ D = none ∧ σ' D = some (.list ((lines ow ch).map .ref)) ∧ Lo (ch.map (·.1)) wr.version σ σ' ∧
      ∀ a r rest, ch = (a, r) :: rest → ∃ t, Md σ' a { r with kept := some t } ∧ σ' t = some (.tup [.int wr.version 0, .ref D]) := by
  refine WCode.ofP fk_410_2 rfl fun P' hP => ?_
  change WS _ _ _ (_ :: _) (argVM _ _ [(_, _), (_, _)]) _ _
  repeat walk_at "m"
  intro wa hwa
  repeat walk_at "m"
  refine WSt.whileP (LS1 ch w wa σ) ch.length ⟨[], ch, rfl, rfl, by walk_at "vm", by walk_at "vm", by walk_at "vm", by walk_at "vm", by walk_at "vm", by walk_at "ex", upd_same _ _ _⟩ ?_
  rintro k vm σ' ⟨pre, suf, rfl, rfl, v1, v2, v3, v4, v5, e, h1⟩
  have hw' := e _ _ hw
  cases suf with
  | nil =>
    have v1 : vm (Str.ofString "module") = some .none := v1
    repeat walk_at "m"
    intro D0 hD0
    repeat walk_at "m"
    refine WSt.forRev (by kernel_rfl) (by kernel_rfl) (by walk_at "hs2") (by walk_at "hs") ?_
    repeat walk_at "m"
    rw [List.append_nil] at hE hN hnd hz hz2 hP
    refine ⟨wa, _, rfl, upd_old hD0 h1, Turns.of (LS2 ow pre w wa wr.version σ) ?_ ?_ ?_ ?_⟩
    · exact ⟨pre, [], D0, by simp, rfl, by walk_at "vm", by walk_at "vm", by walk_at "vm", Ext.none e hD0, upd_same _ _ _, by walk_at "hp", ⟨Km.of_ext (by walk_at "ex"), fun a r _ h => (show Ext σ _ by walk_at "ex") _ _ h, fun a r h => by cases h⟩, fun a r rest h => by cases h⟩
    · rintro k vm σ' ⟨_, _, _, _, _, _, _, _, _, _, h, _⟩
      exact h
    · rintro k y vm σ1 hy ⟨pre', suf, D, rfl, rfl, u2, u3, u4, fD, g1, g2, lo, hh⟩
      obtain ⟨pre', a, r, rfl, rfl⟩ := rev_get rfl hy
      have E := hE pre' a r suf (by simp)
      have ha : a ∉ suf.map (·.1) := by
        intro h
        simp only [List.map_append, List.map_cons, List.map_nil, List.append_assoc, List.cons_append, List.nil_append] at hnd
        have := (List.nodup_append.mp hnd).2.1
        exact (List.nodup_cons.mp this).1 h
      have hl1 : lines ow ((pre' ++ [(a, r)]) ++ suf) = lines ow pre' ++ (ow a ++ lines ow suf) := by simp [lines]
      rw [hl1] at hN hz2
      simp only [List.length_append] at hz2
      obtain ⟨k', tb1⟩ := lo.km.tb E.tb
      have hr1 : Md σ1 a r := lo.out a r ha E.tb.at_
      repeat walk_at "m"
      refine callc (k := 4) (made_line_spec tb1 E.ol (fun b hb => let ⟨q, t⟩ := hT b hb; let ⟨k, t'⟩ := lo.km.tb t; ⟨_, t'⟩)
        (lo.km.ns (fun b hb => hN b (by simp [hb]))) (lo.km.ns (fun b hb => hN b (List.mem_append_right _ (List.mem_append_right _ hb)))) E.dj g1 (by omega)) (by decide) ?_
      rintro _ σ2 ⟨D2, rfl, fD2, e2, g3⟩
      have hw2 := e2 _ _ (lo.km.world hw)
      have hr2 := e2 _ _ hr1
      have g4 := e2 _ _ g2
      repeat walk_at "m"
      intro t ht
      repeat walk_at "m"
      have fD2' : σ D2 = none := lo.km.no _ fD2
      refine ⟨pre', (a, r) :: suf, D2, by simp, by simp, by walk_at "vm", by walk_at "vm", by walk_at "vm", fD2', ?_, ?_, ?_, ?_⟩
      · have : σ2 D2 = some (.list ((lines ow ((a, r) :: suf)).map .ref)) := by rw [g3]; simp [lines]
        walk_at "hp"
      · walk_at "hp"
      · refine ⟨lo.km.trans ((Km.of_ext (Ext.upd e2 ht)).trans (Km.set (r := r) (upd_old ht hr2))), fun b q hb hq => ?_, fun b q hb hq => ?_⟩
        · simp only [List.map_cons, List.mem_cons, not_or] at hb
          have := e2 _ _ (lo.out b q hb.2 hq)
          exact upd_at hb.1 (upd_old ht this)
        · by_cases hba : b = a
          · subst hba
            have e9 := (hq.symm.trans E.tb.at_)
            injection e9 with e9; injection e9 with _ e9
            obtain rfl := MR.inj e9
            exact ⟨t, D2, upd_same _ _ _, by walk_at "hp"⟩
          · simp only [List.map_cons, List.mem_cons] at hb
            obtain ⟨t', l', q1, q2⟩ := lo.inn b q (hb.resolve_left hba) hq
            have q1' := e2 _ _ q1
            have q2' := e2 _ _ q2
            exact ⟨t', l', upd_at hba (upd_old ht q1'), by walk_at "hp"⟩
      · rintro b q rest h
        cases h
        exact ⟨t, upd_same _ _ _, by walk_at "hp"⟩
    · rintro vm σ1 ⟨pre', suf, D, rfl, hk, u2, u3, u4, fD, g1, g2, lo, hh⟩
      obtain rfl : pre' = [] := by simpa using hk
      repeat walk_at "m"
      exact ⟨D, rfl, fD, g1, lo, hh⟩
  | cons p suf =>
    obtain ⟨a, r⟩ := p
    have v1 : vm (Str.ofString "module") = some (.ref a) := v1
    have E := hE pre a r suf rfl
    have ha := e _ _ E.tb.at_
    have hzz : (pre.map fun p : Addr × MR => Value.ref p.1).length ≤ 100000 := by simp at hz ⊢; omega
    have gp : getF (Str.ofString "parent") r.fs = some (oA (hd? suf)) := by rw [MR.get_parent, E.pa]
    have fin : ∀ (vm' : VM), vm' = vm.set (Str.ofString "module") (oA (hd? suf)) → WhB (LS1 (pre ++ (a, r) :: suf) w wa σ) ((a, r) :: suf).length P' .next vm' (upd σ' wa (.list ((pre.map fun p => Value.ref p.1) ++ [.ref a]))) := by
      rintro _ rfl
      exact ⟨suf.length, by simp, pre ++ [(a, r)], suf, by simp, rfl, by walk_at "vm", by walk_at "vm", by walk_at "vm", by walk_at "vm", by walk_at "vm", by walk_at "ex", by rw [upd_same]; simp⟩
    cases hk : r.kept with
    | none =>
      have gk := MR.gn_kept hk
      repeat walk_at "m"
      exact fin _ rfl
    | some t =>
      have gk := MR.gs_kept hk
      have st := E.st
      rw [hk] at st
      obtain ⟨v, l, ht, hv⟩ := st
      have ht' := e _ _ ht
      have hne : (v != wr.version) = true := by simpa using hv
      repeat walk_at "m"
      refine SubP.tup (by walk_at "hp") (by decide) (by decide) rfl ?_
      repeat walk_at "m"
      exact fin _ rfl
theorem line_of_kept {w m D t : Addr} {wr : WR} {r : MR} (hw : σ w = some (.inst 870 wr.fs)) (hm : Md σ m r) (hk : r.kept = some t) (ht : σ t = some (.tup [.int wr.version 0, .ref D])) :
    WCode (gx x) 1 410 [.ref w, .ref m] σ fun v σ' => v = .ref D ∧ Ext σ σ' := by
  have gk := MR.gs_kept hk
  refine WCode.of fk_410_2 rfl ?_
  change WS _ _ _ (_ :: _) (argVM _ _ [(_, _), (_, _)]) _ _
  repeat walk_at "m"
  intro wa hwa
  repeat walk_at "m"
  refine WSt.while_ (fun k vm σ' => vm (Str.ofString "module") = some (.ref m) ∧ vm (Str.ofString "world") = some (.ref w) ∧ vm (Str.ofString "waiting") = some (.ref wa) ∧ vm (Str.ofString "reversed") = some (.type "reversed") ∧ σ' = upd σ wa (.list [])) 0 ⟨by walk_at "vm", by walk_at "vm", by walk_at "vm", by walk_at "vm", rfl⟩ ?_
  rintro k vm σ' ⟨v1, v2, v3, v4, rfl⟩
  have hne : (wr.version != wr.version) = false := by simp
  repeat walk_at "m"
  refine SubP.tup (by walk_at "hp") (by decide) (by decide) rfl ?_
  repeat walk_at "m"
  refine SubP.tup (by walk_at "hp") (by decide) (by decide) rfl ?_
  repeat walk_at "m"
  refine WSt.forRev (by kernel_rfl) (by kernel_rfl) (by walk_at "hs2") (by walk_at "hs") ?_
  repeat walk_at "m"
  refine ⟨wa, [], rfl, upd_same _ _ _, fun k vm σ' => vm (Str.ofString "line") = some (.ref D) ∧ σ' = upd σ wa (.list []), ⟨by walk_at "vm", rfl⟩, ?_, ?_, ?_⟩
  · rintro k vm σ' ⟨_, rfl⟩
    exact upd_same _ _ _
  · rintro k y vm σ' hy
    simp at hy
  · rintro vm σ' ⟨v5, rfl⟩
    repeat walk_at "m"
    show Ext σ _
    walk_at "ex"
end
-- P8
section
variable {x : XX} {n : Nat} {σ : AH}
theorem given_entry_none {w a : Addr} {wr : WR} {r : MR} {s nm : Str} (hw : σ w = some (.inst 870 wr.fs)) (h1 : σ wr.natives = some (.sdict [])) (h2 : σ wr.prelude = some (.sdict [])) (ha : Md σ a r) (hn : r.native = some s) :
    WCode (gx x) 1 438 [.ref w, .ref a, .str nm 0] σ fun v σ' => v = .none ∧ Ext σ σ' := by
  have gn := MR.gs_native hn
  refine WCode.ofP fk_438_3 rfl fun Pq hPq => ?_
  change WS _ _ _ (_ :: _) (argVM _ _ [(_, _), (_, _), (_, _)]) _ _
  repeat walk_at "m"
  refine WE.sdict fun D1 hD1 => ?_
  repeat walk_at "m"
  refine WE.sdict fun D2 hD2 => ?_
  repeat walk_at "m"
  show Ext σ _
  walk_at "ex"
structure Mth (σ : AH) (a : Addr) (nm : Str) (o : Option Value) : Prop where
  ex : ∃ r kvs, Md σ a r ∧ σ r.methods = some (.sdict kvs) ∧ valueAt kvs nm = o
theorem Mth.ext {σ σ' : AH} {a : Addr} {nm : Str} {o : Option Value} (h : Mth σ a nm o) (e : Ext σ σ') : Mth σ' a nm o := let ⟨r, k, h1, h2, h3⟩ := h.ex; ⟨r, k, e _ _ h1, e _ _ h2, h3⟩
theorem entry_at_none {w a : Addr} {wr : WR} {nm : Str} (hw : σ w = some (.inst 870 wr.fs)) (h1 : σ wr.natives = some (.sdict [])) (h2 : σ wr.prelude = some (.sdict [])) (hm : Mth σ a nm none) :
    WCode (gx x) 2 445 [.ref w, .ref a, .str nm 0] σ fun v σ' => v = .none ∧ Ext σ σ' := by
  obtain ⟨r, kvs, ha, hk, hv⟩ := hm.ex
  refine WCode.ofP fk_445_3 rfl fun Pq hPq => ?_
  change WS _ _ _ (_ :: _) (argVM _ _ [(_, _), (_, _), (_, _)]) _ _
  cases hn : r.native with
  | none =>
    have gn := MR.gn_native hn
    repeat walk_at "m"
    exact Ext.refl _
  | some s =>
    have gn := MR.gs_native hn
    repeat walk_at "m"
    refine callc (k := 1) (given_entry_none hw h1 h2 ha hn) (by decide) ?_
    rintro _ σ' ⟨rfl, e⟩
    repeat walk_at "m"
    exact e
theorem entry_at_some {w a e : Addr} {nm : Str} {er : ER} (hm : Mth σ a nm (some (.ref e))) (he : σ e = some (.inst 256 er.fs)) (hs : (er.sort == Str.ofString "gone") = false) :
    WCode (gx x) 2 445 [.ref w, .ref a, .str nm 0] σ fun v σ' => v = .ref e ∧ σ = σ' := by
  obtain ⟨r, kvs, ha, hk, hv⟩ := hm.ex
  refine WCode.ofP fk_445_3 rfl fun Pq hPq => ?_
  change WS _ _ _ (_ :: _) (argVM _ _ [(_, _), (_, _), (_, _)]) _ _
  repeat walk_at "m"
  rfl
/-- what a line gives for a name -/
inductive Fnd (σ : AH) (nm : Str) : List Addr → Option Addr → Prop
  | nil : Fnd σ nm [] none
  | skip {a l o} : Mth σ a nm none → Fnd σ nm l o → Fnd σ nm (a :: l) o
  | hit {a l e er} : Mth σ a nm (some (.ref e)) → σ e = some (.inst 256 (ER.fs er)) → er.sort = Str.ofString "reader" → Fnd σ nm (a :: l) (some e)
theorem Fnd.ext {σ σ' : AH} {nm : Str} {l : List Addr} {o : Option Addr} (h : Fnd σ nm l o) (e : Ext σ σ') : Fnd σ' nm l o := by
  induction h with
  | nil => exact .nil
  | skip h _ ih => exact .skip (h.ext e) ih
  | hit h1 h2 h3 => exact .hit (h1.ext e) (e _ _ h2) h3
inductive FE1 (w : Addr) (nm : Str) (L : List Addr) (o : Option Addr) (σ : AH) (k : Nat) (vm : VM) (σ' : AH) : Prop
  | mk : Ext σ σ' → vm (Str.ofString "world") = some (.ref w) → vm (Str.ofString "name") = some (.str nm 0) → vm (Str.ofString "sight") = some .none → vm (Str.ofString "entry_at") = some (.ref 445) → Fnd σ' nm (L.drop k) o → FE1 w nm L o σ k vm σ'
theorem first_entry_spec {w l : Addr} {wr : WR} {nm : Str} {L : List Addr} {o : Option Addr} (hw : σ w = some (.inst 870 wr.fs)) (h1 : σ wr.natives = some (.sdict [])) (h2 : σ wr.prelude = some (.sdict [])) (hl : σ l = some (.list (L.map .ref))) (hf : Fnd σ nm L o) :
    WCode (gx x) 3 452 [.ref w, .ref l, .str nm 0] σ fun v σ' => v = oA o ∧ Ext σ σ' := by
  refine WCode.ofP fk_452_3 rfl fun Pq hPq => ?_
  change WS _ _ _ (_ :: _) (argVM _ _ [(_, _), (_, _), (_, _)]) _ _
  repeat walk_at "m"
  refine WSt.forList (by kernel_rfl) (by walk_at "hs2") ?_
  repeat walk_at "m"
  refine ⟨l, _, rfl, hl, Turns.of (FE1 w nm L o σ) ⟨Ext.refl _, by walk_at "vm", by walk_at "vm", by walk_at "vm", by walk_at "vm", by simpa using hf⟩ ?_ ?_ ?_⟩
  · rintro k vm σ' ⟨e, _⟩
    exact e _ _ hl
  · rintro k y vm σ' hy ⟨e, v1, v2, v3, v4, hf⟩
    obtain ⟨a, hk, rfl⟩ := ref_get hy
    have hd : L.drop k = a :: L.drop (k + 1) := by
      obtain ⟨hlt, hk'⟩ := List.getElem?_eq_some_iff.mp hk
      rw [← hk']; exact List.drop_eq_getElem_cons hlt
    rw [hd] at hf
    have hw' := e _ _ hw
    have h1' := e _ _ h1
    have h2' := e _ _ h2
    cases hf with
    | skip hm hf =>
      repeat walk_at "m"
      refine callc (k := 2) (entry_at_none hw' h1' h2' hm) (by decide) ?_
      rintro _ σ2 ⟨rfl, e2⟩
      repeat walk_at "m"
      exact ⟨e.trans e2, by walk_at "vm", by walk_at "vm", by walk_at "vm", by walk_at "vm", hf.ext e2⟩
    | @hit _ _ ea er hm he hs =>
      have gs : getF (Str.ofString "sort") er.fs = some (.str (Str.ofString "reader") 0) := by rw [ER.get_sort, hs]
      repeat walk_at "m"
      refine callc (k := 2) (entry_at_some hm he (by rw [hs]; decide)) (by decide) ?_
      rintro _ _ ⟨rfl, rfl⟩
      repeat walk_at "m"
      exact ⟨rfl, e⟩
  · rintro vm σ' ⟨e, v1, v2, v3, v4, hf⟩
    rw [List.length_map, List.drop_length] at hf
    cases hf
    repeat walk_at "m"
    exact ⟨rfl, e⟩
theorem find_spec {w m : Addr} {nm : Str} {Pl P : Value → AH → Prop} (hl : WCode (gx x) 5 410 [.ref w, .ref m] σ Pl) (hf : ∀ v σ1, Pl v σ1 → ∃ D, v = .ref D ∧ WCode (gx x) 3 452 [.ref w, .ref D, .str nm 0] σ1 P) :
    WCode (gx x) 6 459 [.ref w, .ref m, .str nm 0] σ P := by
  refine WCode.ofP fk_459_3 rfl fun Pq hPq => ?_
  change WS _ _ _ (_ :: _) (argVM _ _ [(_, _), (_, _), (_, _)]) _ _
  repeat walk_at "m"
  refine callc (k := 5) hl (by decide) ?_
  intro v σ1 h0
  obtain ⟨D, rfl, h⟩ := hf v σ1 h0
  repeat walk_at "m"
  refine callc (k := 3) h (by decide) ?_
  intro v σ2 h
  repeat walk_at "m"
  exact h
inductive FE2 (w ob D : Addr) (nm : Str) (l : Nat) (σ1 : AH) (k : Nat) (vm : VM) (σ' : AH) : Prop
  | mk : σ1 = σ' → k ≤ l → vm (Str.ofString "world") = some (.ref w) → vm (Str.ofString "name") = some (.str nm 0) → vm (Str.ofString "owner") = some (.ref ob) → vm (Str.ofString "line") = some (.ref D) → vm (Str.ofString "same") = some (.ref 274) → vm (Str.ofString "first_entry") = some (.ref 452) → FE2 w ob D nm l σ1 k vm σ'
theorem find_behind_spec {nu : Addr → Int} {w m ob : Addr} {wr : WR} {nm : Str} {D : Addr} {pre post : List Addr} {q : MR} {o : Option Addr} {Pl : Value → AH → Prop} (hl : WCode (gx x) 5 410 [.ref w, .ref m] σ Pl)
    (hP : ∀ v σ1, Pl v σ1 → ∃ D, v = .ref D ∧ Ext σ σ1 ∧ σ1 D = some (.list ((pre ++ ob :: post).map .ref)))
    (hw : σ w = some (.inst 870 wr.fs)) (h1 : σ wr.natives = some (.sdict [])) (h2 : σ wr.prelude = some (.sdict [])) (hN : Ns nu σ (pre ++ ob :: post)) (ho : Md σ ob q) (hq : q.number = nu ob) (hd : ∀ a ∈ pre, nu a ≠ nu ob) (hf : Fnd σ nm post o) (hz : (pre ++ ob :: post).length ≤ 50000) :
    WCode (gx x) 6 466 [.ref w, .ref m, .ref ob, .str nm 0] σ fun v σ' => v = oA o ∧ Ext σ σ' := by
  refine WCode.ofP fk_466_4 rfl fun Pq hPq => ?_
  change WS _ _ _ (_ :: _) (argVM _ _ [(_, _), (_, _), (_, _), (_, _)]) _ _
  repeat walk_at "m"
  refine callc (k := 5) hl (by decide) ?_
  intro v σ1 h
  obtain ⟨D, rfl, e, hD⟩ := hP v σ1 h
  repeat walk_at "m"
  refine WSt.forEnum ?_ (by kernel_rfl) (by kernel_rfl) (by kernel_rfl) (by walk_at "hs") (by walk_at "hs2")
  repeat walk_at "m"
  refine ⟨D, _, rfl, hD, FE2 w ob D nm pre.length σ1,
    ⟨rfl, by simp, by walk_at "vm", by walk_at "vm", by walk_at "vm", by walk_at "vm", by walk_at "vm", by walk_at "vm"⟩, ?_, ?_, ?_⟩
  · rintro k vm σ' ⟨rfl, _⟩
    exact hD
  · rintro k y vm σ' hy ⟨rfl, hk, v1, v2, v3, v4, v5, v6⟩
    obtain ⟨a, ha, rfl⟩ := ref_get hy
    obtain ⟨r, hr, hn⟩ := (hN.ext e) a (mem_of_get ha)
    have ho' := e _ _ ho
    by_cases hlt : k < pre.length
    · rw [List.getElem?_append_left hlt] at ha
      have hs : (r.number == q.number) = false := by rw [hn, hq]; simpa using hd a (mem_of_get ha)
      repeat walk_at "m"
      refine callc (k := 2) (same_spec hr ho') (by decide) ?_
      rintro _ _ ⟨rfl, rfl⟩
      repeat walk_at "m"
      exact ⟨rfl, hlt, by walk_at "vm", by walk_at "vm", by walk_at "vm", by walk_at "vm", by walk_at "vm", by walk_at "vm"⟩
    · obtain rfl : k = pre.length := by omega
      obtain rfl : a = ob := by simpa using ha.symm
      have hs : (r.number == q.number) = true := by rw [hn, hq]; simp
      repeat walk_at "m"
      refine callc (k := 2) (same_spec hr ho') (by decide) ?_
      rintro _ _ ⟨rfl, rfl⟩
      repeat walk_at "m"
      refine WE.sliceFrom ?_ (by walk_at "hs2")
      repeat walk_at "m"
      refine ⟨D, _, pre.length + 1, 0, rfl, by simp, hD, by simp, by simp at hz ⊢; omega, fun D2 hD2 => ?_⟩
      repeat walk_at "m"
      have e2 : Ext σ (upd σ1 D2 (.list (((pre ++ a :: post).map Value.ref).drop (pre.length + 1)))) := by walk_at "ex"
      have hl2 : (upd σ1 D2 (.list (((pre ++ a :: post).map Value.ref).drop (pre.length + 1)))) D2 = some (.list (post.map .ref)) := by
        rw [upd_same, ← List.map_drop]
        simp
      refine callc (k := 3) (first_entry_spec (e2 _ _ hw) (e2 _ _ h1) (e2 _ _ h2) hl2 (hf.ext e2)) (by decide) ?_
      rintro _ σ3 ⟨rfl, e3⟩
      repeat walk_at "m"
      exact e2.trans e3
  · rintro vm σ' ⟨rfl, hk, _⟩
    simp only [List.length_map, List.length_append, List.length_cons] at hk
    omega
end
-- P9
section
variable {x : XX} {n : Nat} {σ : AH}
theorem str_nil : Str.ofString "" = ⟨#[]⟩ := by rw [Str.ofString_eq_toList]; rfl
theorem str_nil_app (s : Str) : Str.ofString "" ++ s = s := by
  rw [str_nil]; cases s; show Str.mk (#[] ++ _) = _; simp
theorem str_app_nil (s : Str) : s ++ Str.ofString "" = s := by
  rw [str_nil]; cases s; show Str.mk (_ ++ #[]) = _; simp
theorem str_len_app (s t : Str) : (s ++ t).length = s.length + t.length := by
  show (s.cps ++ t.cps).size = _; rw [Array.size_append]; rfl
theorem full_name_plain {m : Addr} {r : MR} {s : Str} (hm : Md σ m r) (h1 : r.attached = none) (h2 : r.nm = some s) (h3 : r.outer = none) (hs : s.length ≤ 1000) :
    WCode (gx x) 1 320 [.ref m] σ fun v σ' => v = .str s 0 ∧ Ext σ σ' := by
  have g1 := MR.gn_attached h1
  have g2 := MR.gs_nm h2
  have g3 := MR.gn_outer h3
  refine WCode.ofP fk_320_1 rfl fun Pq hPq => ?_
  change WS _ _ _ (_ :: _) (argVM _ _ [(_, _)]) _ _
  walk_at "m"
  refine a_swap3 (a := Str.ofString "ahead") (b := Str.ofString "behind") (c := Str.ofString "met") (by kernel_rfl) (by kernel_rfl) (by walk_at "hs") (by walk_at "sw") ?_
  repeat walk_at "m"
  refine WE.idict fun D hD => ?_
  repeat walk_at "m"
  refine WSt.whileP (fun k vm σ' => vm (Str.ofString "module") = some (.ref m) ∧ vm (Str.ofString "ahead") = some (.str (Str.ofString "") 0) ∧ vm (Str.ofString "behind") = some (.str (Str.ofString "") 0) ∧ vm (Str.ofString "met") = some (.ref D) ∧ σ' = upd σ D (.idict [])) 0 ⟨by walk_at "vm", by walk_at "vm", by walk_at "vm", by walk_at "vm", rfl⟩ ?_
  rintro k vm σ' ⟨v1, v2, v3, v4, rfl⟩
  repeat walk_at "m"
  refine Bin.addStr (by show 0 + s.length ≤ 100000; omega) ?_
  repeat walk_at "m"
  refine Bin.addStr (by rw [str_len_app]; show 0 + s.length + 0 ≤ 100000; omega) ?_
  rw [str_nil_app, str_app_nil]
  repeat walk_at "m"
  show Ext σ _
  walk_at "ex"
inductive FN1 (w o m D : Addr) (qn : Int) (σ : AH) (k : Nat) (vm : VM) (σ' : AH) : Prop
  | a : k = 1 → vm (Str.ofString "module") = some (.ref o) → vm (Str.ofString "ahead") = some (.str (Str.ofString "") 0) → vm (Str.ofString "behind") = some (.str (Str.ofString "") 0) → vm (Str.ofString "met") = some (.ref D) → vm (Str.ofString "isinstance") = some (.builtin "isinstance") → vm (Str.ofString "ModuleThing") = some (.ref 228) → σ' = upd σ D (.idict []) → FN1 w o m D qn σ k vm σ'
  | b : vm (Str.ofString "module") = some (.ref m) → vm (Str.ofString "ahead") = some (.str (Str.ofString "#<Class:") 0) → vm (Str.ofString "behind") = some (.str (Str.ofString ">") 0) → vm (Str.ofString "met") = some (.ref D) → σ' = upd (upd σ D (.idict [])) D (.idict [(qn, .bool true)]) → FN1 w o m D qn σ k vm σ'
theorem full_name_own {o m : Addr} {r q : MR} {s : Str} (ho : Md σ o q) (hq : q.attached = some m) (hne : q.number ≠ r.number) (hm : Md σ m r) (h1 : r.attached = none) (h2 : r.nm = some s) (h3 : r.outer = none) (hs : s.length ≤ 1000) :
    WCode (gx x) 1 320 [.ref o] σ fun v σ' => v = .str ((Str.ofString "#<Class:" ++ s) ++ Str.ofString ">") 0 ∧ Ext σ σ' := by
  have g1 := MR.gn_attached h1
  have g2 := MR.gs_nm h2
  have g3 := MR.gn_outer h3
  have g4 := MR.gs_attached hq
  refine WCode.ofP fk_320_1 rfl fun Pq hPq => ?_
  change WS _ _ _ (_ :: _) (argVM _ _ [(_, _)]) _ _
  walk_at "m"
  refine a_swap3 (a := Str.ofString "ahead") (b := Str.ofString "behind") (c := Str.ofString "met") (by kernel_rfl) (by kernel_rfl) (by walk_at "hs") (by walk_at "sw") ?_
  repeat walk_at "m"
  refine WE.idict fun D hD => ?_
  repeat walk_at "m"
  refine WSt.whileP (FN1 o o m D q.number σ) 1
    (.a rfl (by walk_at "vm") (by walk_at "vm") (by walk_at "vm") (by walk_at "vm") (by walk_at "vm") (by walk_at "vm") rfl) ?_
  rintro k vm σ' (⟨rfl, v1, v2, v3, v4, v5, v6, rfl⟩ | ⟨v1, v2, v3, v4, rfl⟩)
  · repeat walk_at "m"
    refine a_swap3 (a := Str.ofString "ahead") (b := Str.ofString "behind") (c := Str.ofString "module") (by kernel_rfl) (by kernel_rfl) (by walk_at "hs") (by walk_at "sw") ?_
    repeat walk_at "m"
    refine Bin.addStr (by decide) ?_
    rw [str_nil_app]
    repeat walk_at "m"
    refine Bin.addStr (by decide) ?_
    rw [str_app_nil]
    repeat walk_at "m"
    exact ⟨0, by decide, .b (by walk_at "vm") (by walk_at "vm") (by walk_at "vm") (by walk_at "vm") rfl⟩
  · have hno : (valueAt [(q.number, Value.bool true)] r.number).isSome = false := by
      simp [valueAt, hne]
    repeat walk_at "m"
    refine iteT (by rw [hno]; rfl) ?_
    repeat walk_at "m"
    refine Bin.addStr (by show 8 + s.length ≤ 100000; omega) ?_
    repeat walk_at "m"
    refine Bin.addStr (by rw [str_len_app]; show 8 + s.length + 1 ≤ 100000; omega) ?_
    repeat walk_at "m"
    show Ext σ _
    walk_at "ex"
/-- what the world is made of -/
structure Wo (σ : AH) (w : Addr) (wr : WR) (kvs : List (Str × Value)) (cl md : Addr) : Prop where
  at_ : σ w = some (.inst 870 wr.fs)
  made : σ wr.made = some (.sdict kvs)
  nat : σ wr.natives = some (.sdict [])
  pre : σ wr.prelude = some (.sdict [])
  cls : valueAt kvs (Str.ofString "Class") = some (.ref cl)
  mod : valueAt kvs (Str.ofString "Module") = some (.ref md)
/-- all stands, but for a and w -/
structure Bt (S : Addr → Prop) (σ σ' : AH) : Prop where
  at_ : ∀ b o, σ b = some o → ¬ S b → σ' b = some o
  no : ∀ b, σ' b = none → σ b = none
theorem ne_mw {a w : Addr} {fs gs} (ha : σ a = some (.inst 228 fs)) (hw : σ w = some (.inst 870 gs)) : a ≠ w := by
  intro e; rw [e, hw] at ha; injection ha with ha; injection ha with ha; simp at ha
abbrev MadeOwn (σ σ' : AH) (w a cl pp : Addr) (wr : WR) (r : MR) : Prop := ∃ z f m c xx yy,
      Md σ' z ⟨wr.last + 1, some cl, f, none, none, true, some pp, none, m, c, xx, yy, some a, r.native.map (· ++ Str.ofString "."), none⟩ ∧ σ' m = some (.sdict []) ∧ σ' xx = some (.list []) ∧ σ' yy = some (.list []) ∧
      σ z = none ∧ σ m = none ∧ Md σ' a { r with own := some z } ∧ σ' w = some (.inst 870 ({ wr with last := wr.last + 1, version := wr.version + 1 } : WR).fs) ∧ Bt (fun b => b = a ∨ b = w) σ σ'
theorem upd_nn {σ : AH} {a b : Addr} {o : AO} (h : upd σ a o b = none) : σ b = none := by
  by_cases e : b = a
  · rw [e, upd_same] at h; cases h
  · rwa [upd_ne _ _ e] at h
theorem make_own_tail {w a cl md pp : Addr} {wr : WR} {kvs : List (Str × Value)} {r : MR} {vm : VM} (W : Wo σ w wr kvs cl md) (ha : Md σ a r) (hat : r.attached = none) (hn : ∀ s, r.native = some s → s.length ≤ 1000)
    (v1 : vm (Str.ofString "world") = some (.ref w)) (v2 : vm (Str.ofString "value") = some (.ref a)) (v3 : vm (Str.ofString "parent") = some (.ref pp)) (v4 : vm (Str.ofString "isinstance") = some (.builtin "isinstance")) (v5 : vm (Str.ofString "ModuleThing") = some (.ref 228))
    (v6 : vm (Str.ofString "raise_version") = some (.ref 473)) :
    WS (gx x) 5 (sf x 501) ((bf x 501).drop 2) vm σ fun fl vm' σ' => fl = .next ∧ MadeOwn σ σ' w a cl pp wr r := by
  have hw := W.at_
  have haw : a ≠ w := ne_mw ha hw
  have g1 := MR.gn_attached hat
  change WS _ _ _ (_ :: _) _ _ _
  repeat walk_at "m"
  refine callc (k := 5) (new_module6 (nm := none) W.at_ W.made W.cls W.mod) (by decide) ?_
  rintro _ σ1 ⟨z, f, m, c, xx, yy, rfl, N⟩
  have a1 : Md σ1 a r := N.ext _ _ (upd_at haw ha)
  have w1 := N.ext _ _ (upd_same _ _ _)
  have nza : z ≠ a := fun e => by have := upd_nn N.fz; rw [e, ha] at this; cases this
  have nzw : z ≠ w := fun e => by have := upd_nn N.fz; rw [e, hw] at this; cases this
  have z1 := N.at_
  have m1 := N.m
  have x1 := N.xs
  have y1 := N.ys
  have bt : ∀ (σ' : AH), (∀ b, b ≠ a → b ≠ w → b ≠ z → σ' b = σ1 b) → (∀ b, σ' b = none → σ1 b = none) → Bt (fun b => b = a ∨ b = w) σ σ' := fun σ' h1 h2 =>
    ⟨fun b o hb hs => by
      have q := N.ext b o (upd_at (fun e => hs (.inr e)) hb)
      rw [h1 b (fun e => hs (.inl e)) (fun e => hs (.inr e)) (fun e => by rw [e, upd_nn N.fz] at hb; cases hb)]; exact q, fun b hb => by
      exact upd_nn (Ext.none N.ext (h2 b hb))⟩
  cases hnat : r.native with
  | none =>
    have g2 : getF (Str.ofString "native") ({ r with own := some z } : MR).fs = some .none := MR.gn_native (r := { r with own := some z }) hnat
    repeat walk_at "m"
    refine callc (k := 1) (raise_version_spec (r := { wr with last := wr.last + 1 }) (by walk_at "hp")) (by decide) ?_
    rintro _ _ rfl
    repeat walk_at "m"
    refine ⟨rfl, z, f, m, c, xx, yy, ?_, by walk_at "hp", by walk_at "hp", by walk_at "hp", upd_nn N.fz, upd_nn N.fm, ?_, upd_same _ _ _, ?_⟩
    · simp only [hnat, Option.map_none]
      walk_at "hp"
    · walk_at "hp"
    · refine bt _ (fun b h1 h2 h3 => by rw [upd_ne _ _ h2, upd_ne _ _ h1]) fun b hb => upd_nn (upd_nn hb)
  | some s =>
    have g2 : getF (Str.ofString "native") ({ r with own := some z } : MR).fs = some (.str s 0) := MR.gs_native (r := { r with own := some z }) hnat
    have g3 : getF (Str.ofString "own") ({ r with own := some z } : MR).fs = some (.ref z) := MR.gs_own (r := { r with own := some z }) rfl
    repeat walk_at "m"
    refine callc (k := 1) (is_own_spec (r := { r with own := some z }) (by walk_at "hp")) (by decide) ?_
    rintro _ _ ⟨rfl, rfl⟩
    have hio : (!isN (oA ({ r with own := some z } : MR).attached)) = false := by
      show (!isN (oA r.attached)) = false
      rw [hat]; rfl
    repeat walk_at "m"
    refine iteT (by rw [hio]; rfl) ?_
    repeat walk_at "m"
    refine Bin.addStr (by have := hn s hnat; show s.length + 1 ≤ 100000; omega) ?_
    repeat walk_at "m"
    refine callc (k := 1) (raise_version_spec (r := { wr with last := wr.last + 1 }) (by walk_at "hp")) (by decide) ?_
    rintro _ _ rfl
    repeat walk_at "m"
    refine ⟨rfl, z, f, m, c, xx, yy, ?_, by walk_at "hp", by walk_at "hp", by walk_at "hp", upd_nn N.fz, upd_nn N.fm, ?_, upd_same _ _ _, ?_⟩
    · simp only [hnat, Option.map_some]
      walk_at "hp"
    · walk_at "hp"
    · refine bt _ (fun b h1 h2 h3 => by rw [upd_ne _ _ h2, upd_ne _ _ h3, upd_ne _ _ h1]) fun b hb => upd_nn (upd_nn (upd_nn hb))
theorem make_own_spec {w a cl md pp : Addr} {wr : WR} {kvs : List (Str × Value)} {r : MR} (W : Wo σ w wr kvs cl md) (ha : Md σ a r) (hc : r.isClass = true) (hat : r.attached = none) (hn : ∀ s, r.native = some s → s.length ≤ 1000)
    (hp : (r.parent = none ∧ r.owner = some pp) ∨ (∃ b q, r.parent = some b ∧ Md σ b q ∧ q.own = some pp)) :
    WCode (gx x) 6 501 [.ref w, .ref a] σ fun _ σ' => MadeOwn σ σ' w a cl pp wr r := by
  have hw := W.at_
  have gc : getF (Str.ofString "is_class") r.fs = some (.bool true) := by rw [MR.get_isClass, hc]
  refine WCode.ofP fk_501_2 rfl fun Pq hPq => ?_
  change WS _ _ _ (_ :: _) (argVM _ _ [(_, _), (_, _)]) _ _
  repeat walk_at "m"
  refine callc (k := 1) (class_above_spec ha) (by decide) ?_
  rintro _ _ ⟨rfl, rfl⟩
  rw [hc, if_pos rfl]
  rcases hp with ⟨hp, ho⟩ | ⟨b, q, hp, hb, hq⟩
  · rw [hp]
    repeat walk_at "m"
    refine callc (k := 1) (class_of_module ha ho) (by decide) ?_
    rintro _ _ ⟨rfl, rfl⟩
    refine WS.mono (make_own_tail (cl := cl) (pp := pp) W ha hat hn ?_ ?_ ?_ ?_ ?_ ?_) ?_
    iterate 6 walk_at "vm"
    rintro _ _ _ ⟨rfl, h⟩
    exact hPq.nxt _ _ h
  · rw [hp, show oA (some b) = .ref b from rfl]
    have go := MR.gs_own hq
    iterate 12 walk_at "m"
    refine WS.mono (make_own_tail (cl := cl) (pp := pp) W ha hat hn ?_ ?_ ?_ ?_ ?_ ?_) ?_
    iterate 6 walk_at "vm"
    rintro _ _ _ ⟨rfl, h⟩
    exact hPq.nxt _ _ h
end
-- P10
section
variable {x : XX} {n : Nat} {σ : AH}
theorem kt_582 : KTup (gx x) 582 [.str (Str.ofString "Kernel") 0, .str (Str.ofString "Comparable") 0, .str (Str.ofString "Enumerable") 0] := by
  intro h hK
  have hl : ∃ vs n, (gx x).K.lookup 582 = some ⟨.type "tuple", none, .seq vs n, #[]⟩ ∧ vs.toList.map er = [.str (Str.ofString "Kernel") 0, .str (Str.ofString "Comparable") 0, .str (Str.ofString "Enumerable") 0] := ⟨_, _, by with_unfolding_all exact rfl, by kernel_rfl⟩
  obtain ⟨vs, n, h1, h2⟩ := hl
  exact ⟨vs, isTup_of (hK _ _ h1), h2⟩
theorem kmap_of {a : Addr} {es : Array DictEntry} {n : Nat} (h1 : (gx x).K.lookup a = some ⟨.type "dict", none, .dict es n, #[]⟩) (h2 : KeysLit x.w.params es.toList) (h3 : (a == sysModules) = false) : KMap (gx x) a (fun k => findBy Value.isStrOf es k) :=
  ⟨h3, fun h hK => mapOf_K hK h1 h2⟩
theorem km_583 : ∃ f, KMap (gx x) 583 f ∧ (f (Str.ofString "Object")).map er = some (.str (Str.ofString "BasicObject") 0) ∧ (f (Str.ofString "BasicObject")).map er = some .none ∧ (f (Str.ofString "Class")).map er = some (.str (Str.ofString "Module") 0) ∧
    (f (Str.ofString "Module")).map er = some (.str (Str.ofString "Object") 0) ∧ (f (Str.ofString "Kernel")).map er = some .none := by
  have h : ∃ es n, (gx x).K.lookup 583 = some ⟨.type "dict", none, .dict es n, #[]⟩ ∧ KeysLit x.w.params es.toList ∧ ((findBy Value.isStrOf es (Str.ofString "Object")).map er = some (.str (Str.ofString "BasicObject") 0) ∧ (findBy Value.isStrOf es (Str.ofString "BasicObject")).map er = some .none ∧ (findBy Value.isStrOf es (Str.ofString "Class")).map er = some (.str (Str.ofString "Module") 0) ∧
    (findBy Value.isStrOf es (Str.ofString "Module")).map er = some (.str (Str.ofString "Object") 0) ∧ (findBy Value.isStrOf es (Str.ofString "Kernel")).map er = some .none) := by
    refine ⟨_, _, by with_unfolding_all exact rfl, ?_, by kernel_rfl, by kernel_rfl, by kernel_rfl, by kernel_rfl, by kernel_rfl⟩
    repeat (first | exact trivial | refine ⟨⟨_, _, rfl, rfl⟩, ?_⟩)
  obtain ⟨es, n, h1, h2, h3⟩ := h
  exact ⟨_, kmap_of h1 h2 (by decide), h3⟩
theorem km_586 : ∃ f t, KMap (gx x) 586 f ∧ (f (Str.ofString "Object")).map er = some (.ref t) ∧ KTup (gx x) t [.str (Str.ofString "Kernel") 0] ∧ f (Str.ofString "BasicObject") = none ∧ f (Str.ofString "Class") = none ∧ f (Str.ofString "Module") = none ∧ f (Str.ofString "Kernel") = none := by
  have h : ∃ es n t vs m, (gx x).K.lookup 586 = some ⟨.type "dict", none, .dict es n, #[]⟩ ∧ (findBy Value.isStrOf es (Str.ofString "Object")).map er = some (.ref t) ∧ (gx x).K.lookup t = some ⟨.type "tuple", none, .seq vs m, #[]⟩ ∧ vs.toList.map er = [.str (Str.ofString "Kernel") 0] ∧
    KeysLit x.w.params es.toList ∧ findBy Value.isStrOf es (Str.ofString "BasicObject") = none ∧ findBy Value.isStrOf es (Str.ofString "Class") = none ∧ findBy Value.isStrOf es (Str.ofString "Module") = none ∧ findBy Value.isStrOf es (Str.ofString "Kernel") = none := by
    refine ⟨_, _, 587, _, _, by with_unfolding_all exact rfl, by kernel_rfl, by with_unfolding_all exact rfl, by kernel_rfl, ?_, by kernel_rfl, by kernel_rfl, by kernel_rfl, by kernel_rfl⟩
    repeat (first | exact trivial | refine ⟨⟨_, _, rfl, rfl⟩, ?_⟩)
  obtain ⟨es, n, t, vs, m, h1, h3, h4, h5, h2, h6⟩ := h
  exact ⟨_, t, kmap_of h1 h2 (by decide), h3, fun h hK => ⟨vs, isTup_of (hK _ _ h4), h5⟩, h6⟩
end
-- P11
section
variable {x : XX} {n : Nat} {σ : AH}
def BC (x : XX) (n : Nat) (w : Addr) (nm : Str) (σ : AH) (P : Addr → AH → Prop) : Prop := WCode (gx x) n 651 [.ref w, .str nm 0] σ fun v σ' => ∃ a, v = .ref a ∧ P a σ'
theorem BC.mono {w : Addr} {nm : Str} {P P' : Addr → AH → Prop} (h : BC x n w nm σ P) (hP : ∀ a σ', P a σ' → P' a σ') : BC x n w nm σ P' := WCode.mono h fun v σ' ⟨a, e, p⟩ => ⟨a, e, hP a σ' p⟩
theorem BC.le {w : Addr} {nm : Str} {P : Addr → AH → Prop} {k : Nat} (h : BC x k w nm σ P) (hk : k ≤ n) : BC x n w nm σ P := WCode.le h hk
def BCs (x : XX) (n : Nat) (w : Addr) : List Str → AH → (List Addr → AH → Prop) → Prop
  | [], σ, P => P [] σ
  | k :: ks, σ, P => (∃ wr : WR, σ w = some (.inst 870 wr.fs)) ∧ BC x n w k σ fun a σ' => BCs x n w ks σ' fun as σ'' => P (a :: as) σ''
def BCo (x : XX) (n : Nat) (w : Addr) : Option Str → AH → (Option Addr → AH → Prop) → Prop
  | none, σ, P => P none σ
  | some k, σ, P => BC x n w k σ fun a σ' => P (some a) σ'
/-- the row of a module that is being made -/
structure Mk (σ σ1 : AH) (w z : Addr) (wr : WR) (kvs : List (Str × Value)) (nm : Str) (r : MR) : Prop where
  fz : σ z = none
  fm : σ r.methods = none
  fx : σ r.mixed = none
  fa : σ r.ahead = none
  at_ : Md σ1 z r
  m : σ1 r.methods = some (.sdict [])
  ys : σ1 r.ahead = some (.list [])
  wA : σ1 w = some (.inst 870 ({ wr with last := wr.last + 1 } : WR).fs)
  made : σ1 wr.made = some (.sdict (stored kvs nm (.ref z)))
  old : ∀ b o, σ b = some o → b ≠ w → b ≠ wr.made → σ1 b = some o
  no : ∀ b, σ1 b = none → σ b = none
def MBk (x : XX) (n : Nat) (w z f m c xx yy : Addr) (l : Int) (nm : Str) (isC : Bool) (pa : Option Addr) (mx : List Str) (P : Addr → AH → Prop) (σ : AH) : Prop :=
  BC x n w (if isC then Str.ofString "Class" else Str.ofString "Module") σ fun ow σ3 =>
          Md σ3 z ⟨l, none, f, none, some nm, isC, pa, none, m, c, xx, yy, none, some nm, none⟩ ∧
          ∀ σ3', (∀ b o, (upd σ3 z (.inst 228 (MR.fs ⟨l, some ow, f, none, some nm, isC, pa, none, m, c, xx, yy, none, some nm, none⟩))) b = some o → σ3' b = some o) →
          (∀ b, σ3' b = none → (upd σ3 z (.inst 228 (MR.fs ⟨l, some ow, f, none, some nm, isC, pa, none, m, c, xx, yy, none, some nm, none⟩))) b = none) →
          BCs x n w mx σ3' fun ms σ4 => Md σ4 z ⟨l, some ow, f, none, some nm, isC, pa, none, m, c, xx, yy, none, some nm, none⟩ ∧
            (∃ wr' : WR, σ4 w = some (.inst 870 wr'.fs) ∧ wr'.ready = false) ∧ ∀ D, σ4 D = none → P z (upd (upd σ4 D (.list (ms.map .ref))) z (.inst 228 (MR.fs ⟨l, some ow, f, none, some nm, isC, pa, none, m, c, D, yy, none, some nm, none⟩)))
theorem mb_tail {w z f m c xx yy : Addr} {l : Int} {nm : Str} {isC : Bool} {pa : Option Addr} {mx : List Str} {P : Addr → AH → Prop} {fM : Str → Option Value} {tM : Addr} {vm : VM} (k2 : KMap (gx x) 586 fM) (h3 : (fM nm = none ∧ mx = []) ∨ ((fM nm).map er = some (.ref tM) ∧ KTup (gx x) tM (mx.map fun s => .str s 0))) (hn : 4 ≤ n)
    {wr0 : WR} (hw : σ w = some (.inst 870 wr0.fs)) (hmx : mx.length ≤ 10)
    (v1 : vm (Str.ofString "self") = some (.ref w)) (v2 : vm (Str.ofString "found") = some (.ref z)) (v3 : vm (Str.ofString "is_class") = some (.bool isC)) (v4 : vm (Str.ofString "name") = some (.str nm 0)) (v5 : vm (Str.ofString "MIXED") = some (.ref 586))
    (hgo : MBk x n w z f m c xx yy l nm isC pa mx P σ) :
    WS (gx x) n (sf x 656) ((bf x 656).drop 6) vm σ fun fl vm' σ' => fl = .ret (.ref z) ∧ P z σ' := by
  change WS _ _ _ (_ :: _) _ _ _
  unfold MBk at hgo
  cases isC
  all_goals
    repeat walk_at "m"
    refine callc (k := n) hgo (Nat.le_refl _) ?_
    rintro _ σ3 ⟨ow, rfl, hz3, h4⟩
    repeat walk_at "m"
    refine WE.listComp [Str.ofString "self"] ⟨by kernel_rfl⟩ (by intro y hy; rw [List.mem_singleton.mp hy, v1]; rfl) (WIt.tup ?_) (by walk_at "hs2")
    repeat walk_at "m"
    refine at_bk k2 PySem.F.slot_dict_get PySem.F.type_dict_get ?_
    repeat walk_at "m"
    intro e he
    repeat walk_at "m"
    refine WCall.getKD k2 ?_
    have hb := h4 (upd (upd σ3 z (.inst 228 (MR.fs ⟨l, some ow, f, none, some nm, _, pa, none, m, c, xx, yy, none, some nm, none⟩))) e (.tup [])) (fun b o hb => upd_old he hb) (fun b hb => upd_nn hb)
    rcases h3 with ⟨h3, rfl⟩ | ⟨h3, hk⟩
    · rw [h3]
      obtain ⟨hz4, ⟨wr', hw4, hr4⟩, hfin⟩ := hb
      refine ⟨e, [], rfl, .inl ⟨upd_same _ _ _, by simp, fun k ys σ' => σ' = _ ∧ ys = [], ⟨rfl, rfl⟩, ?_, ?_, ?_⟩⟩
      · rintro k ys σ' ⟨rfl, _⟩
        exact upd_same _ _ _
      · rintro k y ys σ' hy
        simp at hy
      · rintro ys σ' D ⟨rfl, rfl⟩ hD
        have gr : getF (Str.ofString "is_ready") wr'.fs = some (.bool false) := by rw [WR.get_ready, hr4]
        have hp := hfin D hD
        have hw5 : z ≠ w := ne_mw hz4 hw4
        repeat walk_at "m"
        exact ⟨rfl, hp⟩
    · rw [h3]
      refine ⟨tM, _, rfl, .inr ⟨hk, by rw [List.length_map]; omega, fun k ys σ' => ∃ as : List Addr, ys = as.map .ref ∧ BCs x n w (mx.drop k) σ' fun as' σ4 => Md σ4 z ⟨l, some ow, f, none, some nm, _, pa, none, m, c, xx, yy, none, some nm, none⟩ ∧
            (∃ wr' : WR, σ4 w = some (.inst 870 wr'.fs) ∧ wr'.ready = false) ∧ ∀ D, σ4 D = none → P z (upd (upd σ4 D (.list ((as ++ as').map .ref))) z (.inst 228 (MR.fs ⟨l, some ow, f, none, some nm, _, pa, none, m, c, D, yy, none, some nm, none⟩))), ⟨[], rfl, by simpa using hb⟩, ?_, ?_, ?_⟩⟩
      · intro _ _ _ _; trivial
      · rintro k y ys σ' hy ⟨as, rfl, hbc⟩
        obtain ⟨s, hs, rfl⟩ : ∃ s, mx[k]? = some s ∧ y = .str s 0 := by
          rw [List.getElem?_map] at hy
          cases q : mx[k]? with
          | none => rw [q] at hy; cases hy
          | some s => rw [q] at hy; exact ⟨s, rfl, (Option.some.inj hy).symm⟩
        have hdr : mx.drop k = s :: mx.drop (k + 1) := by
          obtain ⟨hlt, hk'⟩ := List.getElem?_eq_some_iff.mp hs
          rw [← hk']; exact List.drop_eq_getElem_cons hlt
        rw [hdr] at hbc
        obtain ⟨⟨wr', hw'⟩, hbc⟩ := hbc
        repeat walk_at "m"
        refine callc (k := n) hbc (Nat.le_refl _) ?_
        rintro _ σ5 ⟨a, rfl, hbc⟩
        exact ⟨as ++ [a], by simp, by simpa using hbc⟩
      · rintro ys σ' D ⟨as, rfl, hbc⟩ hD
        rw [List.length_map, List.drop_length] at hbc
        obtain ⟨hz4, ⟨wr', hw4, hr4⟩, hfin⟩ := hbc
        have gr : getF (Str.ofString "is_ready") wr'.fs = some (.bool false) := by rw [WR.get_ready, hr4]
        have hp := hfin D hD
        rw [List.append_nil] at hp
        have hw5 : z ≠ w := ne_mw hz4 hw4
        repeat walk_at "m"
        exact ⟨rfl, hp⟩
theorem make_builtin_gen {w : Addr} {wr : WR} {kvs : List (Str × Value)} {nm : Str} {isC : Bool} {pv : Option Str} {mx : List Str} {P : Addr → AH → Prop} {fB fM : Str → Option Value} {tM : Addr} (hw : σ w = some (.inst 870 wr.fs)) (hm : σ wr.made = some (.sdict kvs)) (hz : kvs.length ≤ 1000) (hmx : mx.length ≤ 10)
    (h1 : ([Value.str (Str.ofString "Kernel") 0, .str (Str.ofString "Comparable") 0, .str (Str.ofString "Enumerable") 0].any fun v => v == .str nm 0) = !isC)
    (k1 : KMap (gx x) 583 fB) (h2 : (fB nm).map er = some (oS pv)) (k2 : KMap (gx x) 586 fM) (h3 : (fM nm = none ∧ mx = []) ∨ ((fM nm).map er = some (.ref tM) ∧ KTup (gx x) tM (mx.map fun s => .str s 0))) (hn : 4 ≤ n)
    (hgo : ∀ z f m c xx yy σ1, Mk σ σ1 w z wr kvs nm ⟨wr.last + 1, none, f, none, some nm, isC, none, none, m, c, xx, yy, none, some nm, none⟩ →
      BCo x n w pv σ1 fun pa σ2 => Md σ2 z ⟨wr.last + 1, none, f, none, some nm, isC, none, none, m, c, xx, yy, none, some nm, none⟩ ∧ (∃ wr2 : WR, σ2 w = some (.inst 870 wr2.fs)) ∧
        MBk x n w z f m c xx yy (wr.last + 1) nm isC pa mx P (upd σ2 z (.inst 228 (MR.fs ⟨wr.last + 1, none, f, none, some nm, isC, pa, none, m, c, xx, yy, none, some nm, none⟩)))) :
    WCode (gx x) (n + 1) 656 [.ref w, .str nm 0] σ fun v σ' => ∃ a, v = .ref a ∧ P a σ' := by
  refine WCode.ofP fk_656_2 rfl fun Pq hPq => ?_
  change WS _ _ _ (_ :: _) (argVM _ _ [(_, _), (_, _)]) _ _
  repeat walk_at "m"
  refine Cmp.notInKTup kt_582 (by intro v hv; simp only [List.mem_cons, List.not_mem_nil, or_false] at hv; rcases hv with rfl | rfl | rfl <;> exact ⟨_, _, rfl⟩) ?_
  rw [h1, Bool.not_not]
  repeat walk_at "m"
  refine callc (k := 1) (number_spec hw) (by omega) ?_
  rintro _ _ ⟨rfl, rfl⟩
  repeat walk_at "m"
  refine ((new_ModuleThing5 (ow := none) (nm := some nm) (b := isC)).le (by omega)).mono ?_
  rintro _ σ1 ⟨z, f, m, c, xx, yy, rfl, N⟩
  have w1 := N.ext _ _ (upd_same _ _ _)
  have nmw : wr.made ≠ w := ne_kd hm hw rfl
  have m1 := N.ext _ _ (upd_at nmw hm)
  have z1 := N.at_
  have hz' : kvs.length ≤ 100000 := by omega
  obtain ⟨vB, hB, eB⟩ : ∃ v, fB nm = some v ∧ er v = oS pv := by
    cases q : fB nm with
    | none => rw [q] at h2; cases h2
    | some v => rw [q] at h2; exact ⟨v, rfl, Option.some.inj h2⟩
  repeat walk_at "m"
  refine SubP.kmap k1 hB ?_
  rw [eB]
  have nzw : z ≠ w := fun e => by have := upd_nn N.fz; rw [e, hw] at this; cases this
  have nzm : z ≠ wr.made := fun e => by have := upd_nn N.fz; rw [e, hm] at this; cases this
  have hMk := hgo z f m c xx yy (upd (upd σ1 wr.made (.sdict (stored kvs nm (.ref z)))) z (.inst 228 (MR.fs ⟨wr.last + 1, none, f, none, some nm, isC, none, none, m, c, xx, yy, none, some nm, none⟩)))
    ⟨upd_nn N.fz, upd_nn N.fm, upd_nn N.fx, upd_nn N.fa, upd_same _ _ _, by have := N.m; have q : wr.made ≠ m := fun e => by { have := upd_nn N.fm; rw [← e] at this; simp only at this; rw [hm] at this; cases this }; walk_at "hp", by have := N.ys; walk_at "hp", by walk_at "hp", by walk_at "hp",
      fun b o hb h1 h2 => by
        rw [upd_ne _ _ (fun e => by rw [e, upd_nn N.fz] at hb; cases hb), upd_ne _ _ h2]; exact N.ext b o (upd_at h1 hb), fun b hb => upd_nn (Ext.none N.ext (upd_nn (upd_nn hb)))⟩
  cases pv with
  | none =>
    obtain ⟨z2, ⟨wr2, w2⟩, hk⟩ := hMk
    rw [show oS none = .none from rfl]
    iterate 12 walk_at "m"
    have nw := ne_mw z2 w2
    refine WS.mono (mb_tail (pa := none) (wr0 := wr2) k2 h3 hn ?_ hmx ?_ ?_ ?_ ?_ ?_ hk) ?_
    · exact upd_at nw.symm w2
    iterate 5 walk_at "vm"
    rintro _ _ _ ⟨rfl, h⟩
    exact hPq.ret _ _ _ ⟨z, rfl, h⟩
  | some p =>
    rw [show oS (some p) = .str p 0 from rfl]
    iterate 15 walk_at "m"
    change BC x n w p _ _ at hMk
    unfold BC at hMk
    refine callc (k := n) hMk (Nat.le_refl _) ?_
    rintro _ σ2 ⟨pa, rfl, z2, ⟨wr2, w2⟩, hk⟩
    have nw := ne_mw z2 w2
    iterate 2 walk_at "m"
    refine WS.mono (mb_tail (pa := some pa) (wr0 := wr2) k2 h3 hn ?_ hmx ?_ ?_ ?_ ?_ ?_ hk) ?_
    · exact upd_at nw.symm w2
    iterate 5 walk_at "vm"
    rintro _ _ _ ⟨rfl, h⟩
    exact hPq.ret _ _ _ ⟨z, rfl, h⟩
end
-- P12
section
variable {x : XX} {n : Nat} {σ : AH}
theorem BC.found {w a : Addr} {wr : WR} {kvs : List (Str × Value)} {nm : Str} {P : Addr → AH → Prop} (hw : σ w = some (.inst 870 wr.fs)) (hm : σ wr.made = some (.sdict kvs)) (hv : valueAt kvs nm = some (.ref a)) (hn : 1 ≤ n) (h : P a σ) : BC x n w nm σ P :=
  ((builtin_spec hw hm hv).le hn).mono fun v σ' ⟨e, e'⟩ => ⟨a, e, by rw [← e']; exact h⟩
theorem BC.make {w : Addr} {wr : WR} {kvs : List (Str × Value)} {nm : Str} {P : Addr → AH → Prop} {k : Nat} (hw : σ w = some (.inst 870 wr.fs)) (hm : σ wr.made = some (.sdict kvs)) (hv : valueAt kvs nm = none) (h : WCode (gx x) k 656 [.ref w, .str nm 0] σ fun v σ' => ∃ a, v = .ref a ∧ P a σ') :
    BC x (k + 1) w nm σ P := by
  refine WCode.ofP fk_651_2 rfl fun Pq hPq => ?_
  change WS _ _ _ (_ :: _) (argVM _ _ [(_, _), (_, _)]) _ _
  repeat walk_at "m"
  refine callc (k := k) h (Nat.le_refl _) ?_
  intro v σ' h
  repeat walk_at "m"
  exact h
structure Fb (w mk : Addr) (σ σ' : AH) : Prop where
  old : ∀ b o, σ b = some o → b ≠ w → b ≠ mk → σ' b = some o
  no : ∀ b, σ' b = none → σ b = none
theorem Fb.trans {w mk : Addr} {σ σ' σ'' : AH} (h : Fb w mk σ σ') (h' : Fb w mk σ' σ'') : Fb w mk σ σ'' := ⟨fun b o e h1 h2 => h'.old b o (h.old b o e h1 h2) h1 h2, fun b e => h.no b (h'.no b e)⟩
structure Bi (σ : AH) (mk a : Addr) (num : Int) (ow : Addr) (nm : Str) (isC : Bool) (pa : Option Addr) (ms : List Addr) : Prop where
  ex : ∃ f m c xx yy, Md σ a ⟨num, some ow, f, none, some nm, isC, pa, none, m, c, xx, yy, none, some nm, none⟩ ∧ σ m = some (.sdict []) ∧ σ xx = some (.list (ms.map .ref)) ∧ σ yy = some (.list []) ∧ m ≠ mk
theorem Bi.fb {w mk a ow : Addr} {num : Int} {nm : Str} {isC : Bool} {pa : Option Addr} {ms : List Addr} {σ σ' : AH} {fs kvs} (h : Bi σ mk a num ow nm isC pa ms) (e : Fb w mk σ σ') (hw : σ w = some (.inst 870 fs)) (hm : σ mk = some (.sdict kvs)) : Bi σ' mk a num ow nm isC pa ms := by
  obtain ⟨f, m, c, xx, yy, h1, h2, h3, h4, h5⟩ := h.ex
  exact ⟨f, m, c, xx, yy, e.old _ _ h1 (ne_mw h1 hw) (ne_kd h1 hm rfl), e.old _ _ h2 (ne_kd h2 hw rfl) h5, e.old _ _ h3 (ne_kd h3 hw rfl) (ne_kd h3 hm rfl), e.old _ _ h4 (ne_kd h4 hw rfl) (ne_kd h4 hm rfl), h5⟩
/-- all stands but for the one instance z -/
structure Fz (z : Addr) (σ σ' : AH) : Prop where
  old : ∀ b o, σ b = some o → b ≠ z → σ' b = some o
  no : ∀ b, σ' b = none → σ b = none
theorem Bi.fz {mk a ow z : Addr} {num : Int} {nm : Str} {isC : Bool} {pa : Option Addr} {ms : List Addr} {σ σ' : AH} {C fs} (h : Bi σ mk a num ow nm isC pa ms) (e : Fz z σ σ') (hz : σ z = some (.inst C fs)) (hn : a ≠ z) : Bi σ' mk a num ow nm isC pa ms := by
  obtain ⟨f, m, c, xx, yy, h1, h2, h3, h4, h5⟩ := h.ex
  exact ⟨f, m, c, xx, yy, e.old _ _ h1 hn, e.old _ _ h2 (ne_kd h2 hz rfl), e.old _ _ h3 (ne_kd h3 hz rfl), e.old _ _ h4 (ne_kd h4 hz rfl), h5⟩
theorem MBk.nil {w z f m c xx yy ow : Addr} {l : Int} {nm : Str} {isC : Bool} {pa : Option Addr} {P : Addr → AH → Prop} {wr : WR} {kvs : List (Str × Value)} (hz : Md σ z ⟨l, none, f, none, some nm, isC, pa, none, m, c, xx, yy, none, some nm, none⟩) (hw : σ w = some (.inst 870 wr.fs)) (hr : wr.ready = false) (hm : σ wr.made = some (.sdict kvs))
    (ho : valueAt kvs (if isC then Str.ofString "Class" else Str.ofString "Module") = some (.ref ow)) (hn : 1 ≤ n)
    (hP : ∀ σ' D, Fz z σ σ' → Md σ' z ⟨l, some ow, f, none, some nm, isC, pa, none, m, c, D, yy, none, some nm, none⟩ → σ' D = some (.list []) → P z σ') : MBk x n w z f m c xx yy l nm isC pa [] P σ := by
  unfold MBk
  refine BC.found hw hm ho hn ⟨hz, fun σ3 e1 e2 => ⟨e1 _ _ (upd_same _ _ _), ⟨wr, e1 _ _ (upd_at (ne_mw hz hw).symm hw), hr⟩, fun D hD => hP _ D ⟨fun b o hb hbz => upd_at hbz (upd_old hD (e1 _ _ (upd_at hbz hb))), fun b hb => upd_nn (e2 b (upd_nn (upd_nn hb)))⟩ (upd_same _ _ _) ?_⟩⟩
  refine upd_at (fun e => ?_) (upd_same _ _ _)
  subst e
  have := e1 _ _ (upd_same _ _ _)
  rw [hD] at this; cases this
structure Mkd (σ σ' : AH) (w : Addr) (wr : WR) (z : Addr) (num : Int) (ow : Addr) (nm : Str) (isC : Bool) (pa : Option Addr) (ms : List Addr) (l : Int) (kvs : List (Str × Value)) : Prop where
  bi : Bi σ' wr.made z num ow nm isC pa ms
  wA : σ' w = some (.inst 870 ({ wr with last := l } : WR).fs)
  made : σ' wr.made = some (.sdict kvs)
  fb : Fb w wr.made σ σ'
  fz : σ z = none
/-- all stands but for w, the made and z -/
structure Fq (w mk z : Addr) (σ σ' : AH) : Prop where
  old : ∀ b o, σ b = some o → b ≠ w → b ≠ mk → b ≠ z → σ' b = some o
  no : ∀ b, σ' b = none → σ b = none
theorem Fb.q {w mk z : Addr} {σ σ' : AH} (h : Fb w mk σ σ') : Fq w mk z σ σ' := ⟨fun b o e h1 h2 _ => h.old b o e h1 h2, h.no⟩
theorem Fz.q {w mk z : Addr} {σ σ' : AH} (h : Fz z σ σ') : Fq w mk z σ σ' := ⟨fun b o e _ _ h3 => h.old b o e h3, h.no⟩
theorem Fq.refl {w mk z : Addr} (σ : AH) : Fq w mk z σ σ := ⟨fun b o e _ _ _ => e, fun _ e => e⟩
theorem Fq.trans {w mk z : Addr} {σ σ' σ'' : AH} (h : Fq w mk z σ σ') (h' : Fq w mk z σ' σ'') : Fq w mk z σ σ'' := ⟨fun b o e h1 h2 h3 => h'.old b o (h.old b o e h1 h2 h3) h1 h2 h3, fun b e => h.no b (h'.no b e)⟩
theorem Fz.upd {z : Addr} {σ σ' : AH} {o : AO} (h : Fz z (upd σ z o) σ') : Fz z σ σ' := ⟨fun b o hb hn => h.old b o (upd_at hn hb) hn, fun b hb => upd_nn (h.no b hb)⟩
theorem Mk.done {σ1 σ' : AH} {w z ow D f m c yy : Addr} {wr : WR} {kvs kvs' : List (Str × Value)} {nm : Str} {isC : Bool} {pa : Option Addr} {num l : Int} {ms : List Addr} {r : MR} (h : Mk σ σ1 w z wr kvs nm r) (hm0 : σ wr.made = some (.sdict kvs)) (hq : Fq w wr.made z σ1 σ') (em : r.methods = m) (ey : r.ahead = yy)
    (hw : σ' w = some (.inst 870 ({ wr with last := l } : WR).fs)) (hmd : σ' wr.made = some (.sdict kvs')) (hz : Md σ' z ⟨num, some ow, f, none, some nm, isC, pa, none, m, c, D, yy, none, some nm, none⟩) (hD : σ' D = some (.list (ms.map .ref))) :
    Mkd σ σ' w wr z num ow nm isC pa ms l kvs' := by
  subst em ey
  have n1 : r.methods ≠ wr.made := fun e => by have := h.fm; rw [e, hm0] at this; cases this
  have n2 : r.ahead ≠ wr.made := fun e => by have := h.fa; rw [e, hm0] at this; cases this
  refine ⟨⟨_, _, _, _, _, hz, hq.old _ _ h.m (ne_kd h.m h.wA rfl) n1 (ne_kd h.m h.at_ rfl), hD, hq.old _ _ h.ys (ne_kd h.ys h.wA rfl) n2 (ne_kd h.ys h.at_ rfl), n1⟩, hw, hmd, ⟨fun b o hb h3 h4 => ?_, fun b hb => h.no b (hq.no b hb)⟩, h.fz⟩
  exact hq.old _ _ (h.old b o hb h3 h4) h3 h4 (fun e => by rw [e, h.fz] at hb; cases hb)
end
-- P13
section
variable {x : XX} {n : Nat} {σ : AH}
abbrev sO := Str.ofString "Object"
abbrev sB := Str.ofString "BasicObject"
abbrev sC := Str.ofString "Class"
abbrev sM := Str.ofString "Module"
abbrev sK := Str.ofString "Kernel"
theorem mk_Module {w O C : Addr} {wr : WR} {kvs : List (Str × Value)} (hw : σ w = some (.inst 870 wr.fs)) (hr : wr.ready = false) (hm : σ wr.made = some (.sdict kvs)) (hz : kvs.length ≤ 900) (h1 : valueAt kvs sO = some (.ref O)) (h2 : valueAt kvs sC = some (.ref C)) :
    WCode (gx x) 5 656 [.ref w, .str sM 0] σ fun v σ' => ∃ a, v = .ref a ∧ Mkd σ σ' w wr a (wr.last + 1) C sM true (some O) [] (wr.last + 1) (stored kvs sM (.ref a)) := by
  obtain ⟨fB, k1, b1, b2, b3, b4, b5⟩ := km_583 (x := x)
  obtain ⟨fM, tM, k2, m1, m2, m3, m4, m5, m6⟩ := km_586 (x := x)
  refine make_builtin_gen (isC := true) (pv := some sO) (mx := []) (tM := tM) hw hm (by omega) (by decide) (by decide) k1 b4 k2 (.inl ⟨m5, rfl⟩) (by decide) fun z f m c xx yy σ1 hMk => ?_
  have w1 := hMk.wA
  have d1 := hMk.made
  refine BC.found w1 d1 (by rw [valueAt_stored, if_neg (by decide)]; exact h1) (by decide) ⟨hMk.at_, ⟨_, w1⟩, ?_⟩
  have nzw := ne_mw hMk.at_ w1
  have nzd := ne_kd hMk.at_ d1 rfl
  refine MBk.nil (wr := { wr with last := wr.last + 1 }) (ow := C) (upd_same _ _ _) (upd_at nzw.symm w1) hr (upd_at nzd.symm d1) ?_ (by decide) ?_
  · show valueAt _ sC = _
    rw [valueAt_stored, if_neg (by decide)]; exact h2
  intro σ' D hF hz' hD
  have hF2 := hF.upd
  exact hMk.done hm hF2.q rfl rfl (hF2.old _ _ w1 nzw.symm) (hF2.old _ _ d1 nzd.symm) hz' hD
theorem mk_Kernel {w M : Addr} {wr : WR} {kvs : List (Str × Value)} (hw : σ w = some (.inst 870 wr.fs)) (hr : wr.ready = false) (hm : σ wr.made = some (.sdict kvs)) (hz : kvs.length ≤ 900) (h2 : valueAt kvs sM = some (.ref M)) :
    WCode (gx x) 5 656 [.ref w, .str sK 0] σ fun v σ' => ∃ a, v = .ref a ∧ Mkd σ σ' w wr a (wr.last + 1) M sK false none [] (wr.last + 1) (stored kvs sK (.ref a)) := by
  obtain ⟨fB, k1, b1, b2, b3, b4, b5⟩ := km_583 (x := x)
  obtain ⟨fM, tM, k2, m1, m2, m3, m4, m5, m6⟩ := km_586 (x := x)
  refine make_builtin_gen (isC := false) (pv := none) (mx := []) (tM := tM) hw hm (by omega) (by decide) (by decide) k1 b5 k2 (.inl ⟨m6, rfl⟩) (by decide) fun z f m c xx yy σ1 hMk => ?_
  have w1 := hMk.wA
  have d1 := hMk.made
  refine ⟨hMk.at_, ⟨_, w1⟩, ?_⟩
  have nzw := ne_mw hMk.at_ w1
  have nzd := ne_kd hMk.at_ d1 rfl
  refine MBk.nil (wr := { wr with last := wr.last + 1 }) (ow := M) (upd_same _ _ _) (upd_at nzw.symm w1) hr (upd_at nzd.symm d1) ?_ (by decide) ?_
  · show valueAt _ sM = _
    rw [valueAt_stored, if_neg (by decide)]; exact h2
  intro σ' D hF hz' hD
  have hF2 := hF.upd
  exact hMk.done hm hF2.q rfl rfl (hF2.old _ _ w1 nzw.symm) (hF2.old _ _ d1 nzd.symm) hz' hD
theorem mk_Class {w O : Addr} {wr : WR} {kvs : List (Str × Value)} (hw : σ w = some (.inst 870 wr.fs)) (hr : wr.ready = false) (hm : σ wr.made = some (.sdict kvs)) (hz : kvs.length ≤ 800) (h1 : valueAt kvs sO = some (.ref O)) (h3 : valueAt kvs sM = none) (hss : ∀ v, (stored kvs sC v).length ≤ 900) :
    WCode (gx x) 7 656 [.ref w, .str sC 0] σ fun v σ' => ∃ a, v = .ref a ∧ ∃ b, Mkd σ σ' w wr a (wr.last + 1) a sC true (some b) [] (wr.last + 2) (stored (stored kvs sC (.ref a)) sM (.ref b)) ∧ Bi σ' wr.made b (wr.last + 2) a sM true (some O) [] ∧ σ b = none ∧ a ≠ b := by
  obtain ⟨fB, k1, b1, b2, b3, b4, b5⟩ := km_583 (x := x)
  obtain ⟨fM, tM, k2, m1, m2, m3, m4, m5, m6⟩ := km_586 (x := x)
  refine make_builtin_gen (isC := true) (pv := some sM) (mx := []) (tM := tM) hw hm (by omega) (by decide) (by decide) k1 b3 k2 (.inl ⟨m4, rfl⟩) (by decide) fun z f m c xx yy σ1 hMk => ?_
  have w1 := hMk.wA
  have d1 := hMk.made
  refine BC.make w1 d1 (by rw [valueAt_stored, if_neg (by decide)]; exact h3) ((mk_Module (wr := { wr with last := wr.last + 1 }) (O := O) (C := z) w1 hr d1 (hss _) (by rw [valueAt_stored, if_neg (by decide)]; exact h1) (by rw [valueAt_stored, if_pos rfl])).mono ?_)
  rintro v σ2 ⟨b, rfl, hd⟩
  refine ⟨b, rfl, ?_⟩
  have w2 := hd.wA
  have d2 := hd.made
  have z2 := hd.fb.old _ _ hMk.at_ (ne_mw hMk.at_ w1) (ne_kd hMk.at_ d1 rfl)
  have nzw := ne_mw z2 w2
  have nzd := ne_kd z2 d2 rfl
  refine ⟨z2, ⟨_, w2⟩, ?_⟩
  refine MBk.nil (wr := { wr with last := wr.last + 1 + 1 }) (ow := z) (upd_same _ _ _) (upd_at nzw.symm w2) hr (upd_at nzd.symm d2) ?_ (by decide) ?_
  · show valueAt _ sC = _
    rw [valueAt_stored, if_neg (by decide), valueAt_stored, if_pos rfl]
  intro σ' D hF hz' hD
  have hF2 := hF.upd
  have nbz : b ≠ z := fun e => by have := hd.fz; rw [e, hMk.at_] at this; cases this
  have e2 : wr.last + 1 + 1 = wr.last + 2 := by omega
  refine ⟨b, ?_, ?_, hMk.no _ hd.fz, nbz.symm⟩
  · rw [← e2]
    exact hMk.done hm (hd.fb.q.trans hF2.q) rfl rfl (hF2.old _ _ w2 nzw.symm) (hF2.old _ _ d2 nzd.symm) hz' hD
  · rw [← e2]
    exact hd.bi.fz hF2 z2 nbz
theorem mk_BasicObject {w O : Addr} {wr : WR} {kvs : List (Str × Value)} (hw : σ w = some (.inst 870 wr.fs)) (hr : wr.ready = false) (hm : σ wr.made = some (.sdict kvs)) (hz : kvs.length ≤ 100) (h1 : valueAt kvs sO = some (.ref O)) (h2 : valueAt kvs sC = none) (h3 : valueAt kvs sM = none) (hs1 : ∀ v, (stored kvs sB v).length ≤ 200) (hs2 : ∀ v u, (stored (stored kvs sB v) sC u).length ≤ 300) :
    WCode (gx x) 9 656 [.ref w, .str sB 0] σ fun v σ' => ∃ a, v = .ref a ∧ ∃ c b, Mkd σ σ' w wr a (wr.last + 1) c sB true none [] (wr.last + 3) (stored (stored (stored kvs sB (.ref a)) sC (.ref c)) sM (.ref b)) ∧
      Bi σ' wr.made c (wr.last + 2) c sC true (some b) [] ∧ Bi σ' wr.made b (wr.last + 3) c sM true (some O) [] ∧ σ c = none ∧ σ b = none := by
  obtain ⟨fB, k1, b1, b2, b3, b4, b5⟩ := km_583 (x := x)
  obtain ⟨fM, tM, k2, m1, m2, m3, m4, m5, m6⟩ := km_586 (x := x)
  refine make_builtin_gen (isC := true) (pv := none) (mx := []) (tM := tM) hw hm (by omega) (by decide) (by decide) k1 b2 k2 (.inl ⟨m3, rfl⟩) (by decide) fun z f m c xx yy σ1 hMk => ?_
  have w1 := hMk.wA
  have d1 := hMk.made
  refine ⟨hMk.at_, ⟨_, w1⟩, ?_⟩
  have nzw := ne_mw hMk.at_ w1
  have nzd := ne_kd hMk.at_ d1 rfl
  rw [upd_self _ hMk.at_]
  unfold MBk
  refine BC.make (k := 7) (wr := { wr with last := wr.last + 1 }) w1 d1 (by show valueAt _ sC = _; rw [valueAt_stored, if_neg (by decide)]; exact h2)
    ((mk_Class (wr := { wr with last := wr.last + 1 }) (O := O) w1 hr d1 (by have := hs1 (.ref z); omega) (by rw [valueAt_stored, if_neg (by decide)]; exact h1) (by rw [valueAt_stored, if_neg (by decide)]; exact h3) (fun v => by have := hs2 (.ref z) v; omega)).mono ?_)
  rintro v σ2 ⟨cl, rfl, md, hd, hb, hnb, ncm⟩
  have w2 := hd.wA
  have d2 := hd.made
  have z2 := hd.fb.old z _ hMk.at_ nzw nzd
  refine ⟨cl, rfl, z2, fun σ3 e1 e2 => ⟨e1 _ _ (upd_same _ _ _), ⟨_, e1 _ _ (upd_at nzw.symm w2), hr⟩, fun D hD => ?_⟩⟩
  have hD2 : σ2 D = none := upd_nn (e2 _ hD)
  have nDz : D ≠ z := fun e => by rw [e, z2] at hD2; cases hD2
  have hF : Fz z σ2 (upd (upd σ3 D (.list [])) z (.inst 228 (MR.fs ⟨wr.last + 1, some cl, f, none, some sB, true, none, none, m, c, D, yy, none, some sB, none⟩))) :=
    ⟨fun b o hb hbz => upd_at hbz (upd_old hD (e1 _ _ (upd_at hbz hb))), fun b hb => upd_nn (e2 b (upd_nn (upd_nn hb)))⟩
  have ncz : cl ≠ z := fun e => by have := hd.fz; rw [e, hMk.at_] at this; cases this
  have nmz : md ≠ z := fun e => by rw [e, hMk.at_] at hnb; cases hnb
  have q1 : wr.last + 1 + 1 = wr.last + 2 := by omega
  have q2 : wr.last + 1 + 2 = wr.last + 3 := by omega
  rw [← q1, ← q2]
  exact ⟨cl, md, hMk.done hm (hd.fb.q.trans hF.q) rfl rfl (hF.old _ _ w2 nzw.symm) (hF.old _ _ d2 nzd.symm) (upd_same _ _ _) (upd_at nDz (upd_same _ _ _)), hd.bi.fz hF z2 ncz, hb.fz hF z2 nmz, hMk.no _ hd.fz, hMk.no _ hnb⟩
theorem stored_len {K : Type} [DecidableEq K] (l : List (K × Value)) (k : K) (v : Value) : (stored l k v).length ≤ l.length + 1 := by
  unfold stored
  split <;> simp
abbrev kv5 (O B C M K : Addr) : List (Str × Value) := stored (stored (stored (stored (stored [] sO (.ref O)) sB (.ref B)) sC (.ref C)) sM (.ref M)) sK (.ref K)
theorem mk_Object {w : Addr} {wr : WR} (hw : σ w = some (.inst 870 wr.fs)) (hr : wr.ready = false) (hm : σ wr.made = some (.sdict [])) :
    WCode (gx x) 11 656 [.ref w, .str sO 0] σ fun v σ' => ∃ O, v = .ref O ∧ ∃ B C M K, Mkd σ σ' w wr O (wr.last + 1) C sO true (some B) [K] (wr.last + 5) (kv5 O B C M K) ∧
      Bi σ' wr.made B (wr.last + 2) C sB true none [] ∧ Bi σ' wr.made C (wr.last + 3) C sC true (some M) [] ∧ Bi σ' wr.made M (wr.last + 4) C sM true (some O) [] ∧ Bi σ' wr.made K (wr.last + 5) M sK false none [] := by
  obtain ⟨fB, k1, b1, b2, b3, b4, b5⟩ := km_583 (x := x)
  obtain ⟨fM, tM, k2, m1, m2, m3, m4, m5, m6⟩ := km_586 (x := x)
  refine make_builtin_gen (isC := true) (pv := some sB) (mx := [sK]) (tM := tM) hw hm (by simp) (by decide) (by decide) k1 b1 k2 (.inr ⟨m1, m2⟩) (by decide) fun z f m c xx yy σ1 hMk => ?_
  have w1 := hMk.wA
  have d1 := hMk.made
  have nzw1 := ne_mw hMk.at_ w1
  have nzd1 := ne_kd hMk.at_ d1 rfl
  refine BC.make (k := 9) w1 d1 rfl ((mk_BasicObject (wr := { wr with last := wr.last + 1 }) (O := z) w1 hr d1 (by simp [stored]) rfl rfl rfl (fun v => by have := stored_len (stored [] sO (.ref z)) sB v; have := stored_len [] sO (.ref z); simp at *; omega) (fun v u => by have := stored_len (stored (stored [] sO (.ref z)) sB v) sC u; have := stored_len (stored [] sO (.ref z)) sB v; have := stored_len [] sO (.ref z); simp at *; omega)).mono ?_)
  rintro v σ2 ⟨B, rfl, C, M, hd, hC, hM, fC, fM'⟩
  have w2 := hd.wA
  have d2 := hd.made
  have z2 := hd.fb.old z _ hMk.at_ nzw1 nzd1
  have nzw := ne_mw z2 w2
  have nzd := ne_kd z2 d2 rfl
  refine ⟨B, rfl, z2, ⟨_, w2⟩, ?_⟩
  unfold MBk
  refine BC.found (a := C) (wr := { wr with last := wr.last + 1 + 3 }) (upd_at nzw.symm w2) (upd_at nzd.symm d2) ?_ (by decide) ?_
  · show valueAt _ sC = _
    rw [valueAt_stored, if_neg (by decide), valueAt_stored, if_pos rfl]
  refine ⟨upd_same _ _ _, fun σ3 e1 e2 => ?_⟩
  have hF3 : Fz z σ2 σ3 := ⟨fun b o hb hbz => e1 _ _ (upd_at hbz (upd_at hbz hb)), fun b hb => upd_nn (upd_nn (e2 b hb))⟩
  have w3 := hF3.old _ _ w2 nzw.symm
  have d3 := hF3.old _ _ d2 nzd.symm
  have z3 := e1 _ _ (upd_same _ _ _)
  refine ⟨⟨_, w3⟩, ?_⟩
  refine BC.le (k := 6) (BC.make (k := 5) w3 d3 ?_ ((mk_Kernel (wr := { wr with last := wr.last + 1 + 3 }) (M := M) w3 hr d3 ?_ ?_).mono ?_)) (by decide)
  · rw [valueAt_stored, if_neg (by decide), valueAt_stored, if_neg (by decide), valueAt_stored, if_neg (by decide), valueAt_stored, if_neg (by decide)]; rfl
  · have := stored_len (stored (stored (stored [] sO (.ref z)) sB (.ref B)) sC (.ref C)) sM (.ref M)
    have := stored_len (stored (stored [] sO (.ref z)) sB (.ref B)) sC (.ref C)
    have := stored_len (stored [] sO (.ref z)) sB (.ref B)
    have := stored_len [] sO (.ref z)
    simp at *; omega
  · rw [valueAt_stored, if_pos rfl]
  rintro v σ4 ⟨K, rfl, hk⟩
  have w4 := hk.wA
  have d4 := hk.made
  have z4 : Md σ4 z _ := hk.fb.old _ _ z3 (ne_mw z3 w3) (ne_kd z3 d3 rfl)
  have nzw4 := ne_mw z4 w4
  have nzd4 := ne_kd z4 d4 rfl
  refine ⟨K, rfl, z4, ⟨_, w4, hr⟩, fun D hD => ?_⟩
  have nDz : D ≠ z := fun e => by rw [e, z4] at hD; cases hD
  have hF5 : Fz z σ4 (upd (upd σ4 D (.list ([K].map .ref))) z (.inst 228 (MR.fs ⟨wr.last + 1, some C, f, none, some sO, true, some B, none, m, c, D, yy, none, some sO, none⟩))) :=
    ⟨fun b o hb hbz => upd_at hbz (upd_old hD hb), fun b hb => upd_nn (upd_nn hb)⟩
  have nB : B ≠ z := fun e => by have := hd.fz; rw [e, hMk.at_] at this; cases this
  have nC : C ≠ z := fun e => by rw [e, hMk.at_] at fC; cases fC
  have nM : M ≠ z := fun e => by rw [e, hMk.at_] at fM'; cases fM'
  have nK : K ≠ z := fun e => by have := hk.fz; rw [e, z3] at this; cases this
  have q1 : wr.last + 1 + 1 = wr.last + 2 := by omega
  have q2 : wr.last + 1 + 2 = wr.last + 3 := by omega
  have q3 : wr.last + 1 + 3 = wr.last + 4 := by omega
  have q4 : wr.last + 1 + 3 + 1 = wr.last + 5 := by omega
  rw [← q1, ← q2, ← q4, ← q3]
  refine ⟨B, C, M, K, hMk.done hm (((hd.fb.q.trans hF3.q).trans hk.fb.q).trans hF5.q) rfl rfl (hF5.old _ _ w4 nzw4.symm) (hF5.old _ _ d4 nzd4.symm) (upd_same _ _ _) (upd_at nDz (upd_same _ _ _)), ?_, ?_, ?_, ?_⟩
  · exact ((hd.bi.fz hF3 z2 nB).fb hk.fb w3 d3).fz hF5 z4 nB
  · exact ((hC.fz hF3 z2 nC).fb hk.fb w3 d3).fz hF5 z4 nC
  · exact ((hM.fz hF3 z2 nM).fb hk.fb w3 d3).fz hF5 z4 nM
  · exact hk.bi.fz hF5 z4 nK
end
-- P14
section
variable {x : XX} {n : Nat} {σ : AH}
theorem give_own_spec {w : Addr} {wr : WR} {nm : Str} (hw : σ w = some (.inst 870 wr.fs)) (h1 : σ wr.natives = some (.sdict [])) (h2 : σ wr.prelude = some (.sdict [])) (hz : nm.length ≤ 1000) : WCode (gx x) 1 663 [.ref w, .str nm 0] σ fun v σ' => σ = σ' := by
  have hs : (valueAt ([] : List (Str × Value)) (nm ++ Str.ofString ".")).isSome = false := rfl
  refine WCode.ofP fk_663_2 rfl fun Pq hPq => ?_
  change WS _ _ _ (_ :: _) (argVM _ _ [(_, _), (_, _)]) _ _
  repeat walk_at "m"
  refine Bin.addStr (by show nm.length + 1 ≤ 100000; omega) ?_
  repeat walk_at "m"
  refine Bin.addStr (by show nm.length + 1 ≤ 100000; omega) ?_
  repeat walk_at "m"
  rfl
structure W5 (σ : AH) (w : Addr) (wr : WR) (O B C M K : Addr) : Prop where
  at_ : σ w = some (.inst 870 wr.fs)
  made : σ wr.made = some (.sdict (kv5 O B C M K))
  nat : σ wr.natives = some (.sdict [])
  pre : σ wr.prelude = some (.sdict [])
  bO : Bi σ wr.made O 2 C sO true (some B) [K]
  bB : Bi σ wr.made B 3 C sB true none []
  bC : Bi σ wr.made C 4 C sC true (some M) []
  bM : Bi σ wr.made M 5 C sM true (some O) []
  bK : Bi σ wr.made K 6 M sK false none []
theorem world_init {w N Pd : Addr} {mo : Int} (hw0 : σ w = none) (hN : σ N = some (.sdict [])) (hP : σ Pd = some (.sdict [])) :
    WCode (gx x) 14 609 [.ref w, .ref N, .ref Pd, .none, .int mo 0] (upd σ w (.inst 870 [])) fun v σ' => v = .none ∧ ∃ wr O B C M K, W5 σ' w wr O B C M K ∧ wr.last = 6 ∧ wr.version = 0 ∧ Ext σ σ' := by
  refine WCode.ofP fk_609_5 rfl fun Pq hPq => ?_
  change WS _ _ _ (_ :: _) (argVM _ _ [(_, _), (_, _), (_, _), (_, _), (_, _)]) _ _
  repeat walk_at "m"
  refine WE.idict fun S hS => ?_
  repeat walk_at "m"
  refine WE.sdict fun Mk hMk => ?_
  repeat walk_at "m"
  refine WE.idict fun G hG => ?_
  repeat walk_at "m"
  intro Ou hOu
  repeat walk_at "m"
  generalize hσA : upd _ w (AO.inst 870 (setF (Str.ofString "is_ready") _ _)) = σA
  have w1 : σA w = some (.inst 870 (WR.fs ⟨N, Pd, mo, 0, S, Mk, 0, G, Ou, false, none⟩)) := by rw [← hσA]; exact (upd_same _ _ _).trans (by kernel_rfl)
  have d1 : σA Mk = some (.sdict []) := by rw [← hσA]; walk_at "hp"
  have N1 : σA N = some (.sdict []) := by rw [← hσA]; walk_at "hp"
  have P1 : σA Pd = some (.sdict []) := by rw [← hσA]; walk_at "hp"
  have e1 : Ext σ σA := by rw [← hσA]; walk_at "ex"
  have fMk : σ Mk = none := Ext.none (by walk_at "ex") hMk
  clear hσA hOu hG hMk hS
  have nNM : N ≠ Mk := fun e => by rw [e, fMk] at hN; cases hN
  have nPM : Pd ≠ Mk := fun e => by rw [e, fMk] at hP; cases hP
  repeat walk_at "m"
  refine callc (k := 1) (number_spec w1) (by decide) ?_
  rintro _ _ ⟨rfl, rfl⟩
  repeat walk_at "m"
  refine callc (k := 12) (BC.make (k := 11) (upd_same _ _ _) (by walk_at "hp") rfl (mk_Object (wr := ⟨N, Pd, mo, 0 + 1, S, Mk, 0, G, Ou, false, none⟩) (upd_same _ _ _) rfl (by walk_at "hp"))) (by decide) ?_
  rintro _ σB ⟨O, rfl, B, C, M, K, hd, hB, hC, hM, hK⟩
  have w2 : σB w = some (.inst 870 (WR.fs ⟨N, Pd, mo, 6, S, Mk, 0, G, Ou, false, none⟩)) := hd.wA
  have d2 : σB Mk = some (.sdict (kv5 O B C M K)) := hd.made
  have N2 := hd.fb.old N _ (by walk_at "hp") (ne_kd N1 w1 rfl) nNM
  have P2 := hd.fb.old Pd _ (by walk_at "hp") (ne_kd P1 w1 rfl) nPM
  have e2 : Ext σ σB := fun b o hb => hd.fb.old b o (by rw [upd_ne _ _ (fun e => by rw [e, hw0] at hb; cases hb)]; exact e1 b o hb) (fun e => by rw [e, hw0] at hb; cases hb) (fun e => by rw [e, fMk] at hb; cases hb)
  repeat walk_at "m"
  refine (new_Thing (ow := some O)).le (by decide) |>.mono ?_
  rintro _ σC ⟨t, rfl, ft, e3⟩
  have w3 := e3 _ _ w2
  have d3 := e3 _ _ d2
  have N3 := e3 _ _ N2
  have P3 := e3 _ _ P2
  have e4 := e2.trans e3
  iterate 1 walk_at "m"
  refine at_set' w3 st_870_main (WR.set_main _ _ rfl) (WR.len _) ?_
  repeat walk_at "m"
  have nwM : Mk ≠ w := ne_kd d3 w3 rfl
  generalize hσD : upd _ w (AO.inst 870 _) = σD
  have wD : σD w = some (.inst 870 (WR.fs ⟨N, Pd, mo, 6, S, Mk, 0, G, Ou, true, some t⟩)) := by rw [← hσD]; exact upd_same _ _ _
  have fD : Fb w Mk σC σD := by rw [← hσD]; exact ⟨fun b o hb h1 _ => upd_at h1 (upd_at h1 hb), fun b hb => upd_nn (upd_nn hb)⟩
  have dD : σD Mk = some (.sdict (kv5 O B C M K)) := by rw [← hσD]; exact upd_at nwM (upd_at nwM d3)
  have nNw : N ≠ w := ne_kd N3 w3 rfl
  have nPw : Pd ≠ w := ne_kd P3 w3 rfl
  have ND := fD.old _ _ N3 nNw nNM
  have PD := fD.old _ _ P3 nPw nPM
  have f3 : Fb w Mk σB σC := ⟨fun b o h _ _ => e3 _ _ h, fun b h => Ext.none e3 h⟩
  have eD : Ext σ σD := fun b o hb => by
    rw [← hσD]
    exact upd_at (fun e => by rw [e, hw0] at hb; cases hb) (upd_at (fun e => by rw [e, hw0] at hb; cases hb) (e4 b o hb))
  clear hσD
  have W : W5 σD w ⟨N, Pd, mo, 6, S, Mk, 0, G, Ou, true, some t⟩ O B C M K := ⟨wD, dD, ND, PD, (hd.bi.fb f3 w2 d2).fb fD w3 d3, (hB.fb f3 w2 d2).fb fD w3 d3, (hC.fb f3 w2 d2).fb fD w3 d3, (hM.fb f3 w2 d2).fb fD w3 d3, (hK.fb f3 w2 d2).fb fD w3 d3⟩
  have hlen : (kv5 O B C M K).length ≤ 100000 := by
    have e : (kv5 O B C M K).length = 5 := by kernel_rfl
    omega
  refine WSt.forList (by kernel_rfl) (by walk_at "hs2") ?_
  repeat walk_at "m"
  refine WCall.listDict dD hlen fun L hL => ?_
  have hkeys : ((kv5 O B C M K).map fun p => Value.str p.1 0) = [.str sO 0, .str sB 0, .str sC 0, .str sM 0, .str sK 0] := by kernel_rfl
  rw [hkeys]
  refine ⟨L, _, rfl, upd_same _ _ _, Turns.of (fun k vm σ' => σ' = upd σD L (.list [.str sO 0, .str sB 0, .str sC 0, .str sM 0, .str sK 0]) ∧ vm (Str.ofString "self") = some (.ref w)) ⟨rfl, by walk_at "vm"⟩ ?_ ?_ ?_⟩
  · rintro k vm σ' ⟨rfl, _⟩
    exact upd_same _ _ _
  · rintro k y vm σ' hy ⟨rfl, v1⟩
    have hy2 := List.mem_of_getElem? hy
    obtain ⟨s, rfl, hs⟩ : ∃ s : Str, y = .str s 0 ∧ s.length ≤ 1000 := by
      simp only [List.mem_cons, List.not_mem_nil, or_false] at hy2
      rcases hy2 with rfl | rfl | rfl | rfl | rfl <;> exact ⟨_, rfl, by decide⟩
    repeat walk_at "m"
    refine callc (k := 1) (give_own_spec (upd_old hL wD) (upd_old hL ND) (upd_old hL PD) hs) (by decide) ?_
    rintro _ _ rfl
    repeat walk_at "m"
    exact ⟨rfl, by walk_at "vm"⟩
  · rintro vm σ' ⟨rfl, v1⟩
    have fL : Fb w Mk σD (upd σD L (.list [.str sO 0, .str sB 0, .str sC 0, .str sM 0, .str sK 0])) := ⟨fun b o h _ _ => upd_old hL h, fun b h => upd_nn h⟩
    repeat walk_at "m"
    exact ⟨_, O, B, C, M, K, ⟨upd_old hL wD, upd_old hL dD, upd_old hL ND, upd_old hL PD, W.bO.fb fL wD dD, W.bB.fb fL wD dD, W.bC.fb fL wD dD, W.bM.fb fL wD dD, W.bK.fb fL wD dD⟩, rfl, rfl, Ext.upd eD hL⟩
theorem new_World {N Pd : Addr} {mo : Int} (hN : σ N = some (.sdict [])) (hP : σ Pd = some (.sdict [])) : WCall (gx x) 15 (.ref 870) [.ref N, .ref Pd, .none, .int mo 0] σ fun v σ' => ∃ w wr O B C M K, v = .ref w ∧ W5 σ' w wr O B C M K ∧ wr.last = 6 ∧ wr.version = 0 ∧ Ext σ σ' ∧ σ w = none :=
  callk (k := 14) (P₀ := fun v σ' => ∃ w wr O B C M K, v = .ref w ∧ W5 σ' w wr O B C M K ∧ wr.last = 6 ∧ wr.version = 0 ∧ Ext σ σ' ∧ σ w = none) ck_870
    (fun w hw => (world_init hw hN hP).mono fun v σ' h => by obtain ⟨e, wr, O, B, C, M, K, h1, h2, h3, h4⟩ := h; exact ⟨e, w, wr, O, B, C, M, K, rfl, h1, h2, h3, h4, hw⟩) (by decide) fun v σ' h => h
end
-- P15
section
variable {x : XX} {n : Nat} {σ : AH}
structure Oe (σ : AH) (Cl a : Addr) (r : MR) (rest : List (Addr × MR)) : Prop where
  at_ : ∃ k, Md σ a { r with kept := k }
  own : r.own = none
  cls : r.isClass = true
  att : r.attached = none
  pa : r.parent = hd? rest
  nat : ∀ s, r.native = some s → s.length ≤ 1000
  top : rest = [] → r.owner = some Cl
structure Ko (S : List Addr) (w : Addr) (σ σ' : AH) : Prop where
  md : ∀ a r, a ∈ S → Md σ a r → ∃ o, Md σ' a { r with own := o }
  ot : ∀ b o, σ b = some o → b ∉ S → b ≠ w → σ' b = some o
  no : ∀ b, σ' b = none → σ b = none
structure Zr (base σ : AH) (lo : Int) (a z : Addr) (r : MR) (up : Addr) : Prop where
  at_ : Md σ z r
  kept : r.kept = none
  pa : r.parent = some up
  m : σ r.methods = some (.sdict [])
  xs : σ r.mixed = some (.list [])
  ys : σ r.ahead = some (.list [])
  att : r.attached = some a
  num : lo < r.number
  fr : base r.methods = none
  own : ∃ q, Md σ a q ∧ q.own = some z
def Ownd (base σ : AH) (Cl : Addr) (lo : Int) : List (Addr × MR) → List (Addr × MR) → Prop
  | [], [] => True
  | (a, _) :: as, (z, r) :: zs => Zr base σ lo a z r ((hd? zs).getD Cl) ∧ (∀ p ∈ zs, p.2.methods ≠ r.methods) ∧ Ownd base σ Cl lo as zs
  | _, _ => False
theorem own_module_has {w a z : Addr} {r : MR} (ha : Md σ a r) (ho : r.own = some z) : WCode (gx x) 7 487 [.ref w, .ref a] σ fun v σ' => v = .ref z ∧ Ext σ σ' := by
  have go := MR.gs_own ho
  refine WCode.ofP fk_487_2 rfl fun Pq hPq => ?_
  change WS _ _ _ (_ :: _) (argVM _ _ [(_, _), (_, _)]) _ _
  repeat walk_at "m"
  refine a_swap2 (a := Str.ofString "waiting") (b := Str.ofString "one") (by kernel_rfl) (by kernel_rfl) (by walk_at "hs") (by walk_at "sw") ?_
  repeat walk_at "m"
  intro wa hwa
  repeat walk_at "m"
  refine WSt.whileP (fun k vm σ' => vm (Str.ofString "one") = some (.ref a) ∧ vm (Str.ofString "value") = some (.ref a) ∧ vm (Str.ofString "waiting") = some (.ref wa) ∧ vm (Str.ofString "reversed") = some (.type "reversed") ∧ σ' = upd σ wa (.list [])) 0 ⟨by walk_at "vm", by walk_at "vm", by walk_at "vm", by walk_at "vm", rfl⟩ ?_
  rintro k vm σ' ⟨v1, v2, v3, v4, rfl⟩
  repeat walk_at "m"
  refine WSt.forRev (by kernel_rfl) (by kernel_rfl) (by walk_at "hs2") (by walk_at "hs") ?_
  repeat walk_at "m"
  refine ⟨wa, [], rfl, upd_same _ _ _, Turns.of (fun k vm σ' => vm (Str.ofString "value") = some (.ref a) ∧ σ' = upd σ wa (.list [])) ⟨by walk_at "vm", rfl⟩ ?_ ?_ ?_⟩
  · rintro k vm σ' ⟨_, rfl⟩
    exact upd_same _ _ _
  · rintro k y vm σ' hy
    simp at hy
  · rintro vm σ' ⟨v5, rfl⟩
    repeat walk_at "m"
    show Ext σ _
    walk_at "ex"
theorem Ownd.mem {base : AH} {Cl : Addr} {lo : Int} : ∀ {as zs : List (Addr × MR)}, Ownd base σ Cl lo as zs → ∀ p ∈ zs, σ p.2.methods = some (.sdict [])
  | [], [], _, _, h => by cases h
  | (a, _) :: as, (z, r) :: zs, h, p, hp => by
    rcases List.mem_cons.mp hp with rfl | hp
    · exact h.1.m
    · exact Ownd.mem h.2.2 p hp
  | [], _ :: _, h, _, _ => h.elim
  | _ :: _, [], h, _, _ => h.elim
theorem Ownd.step {base : AH} {Cl b w : Addr} {lo : Int} {σ2 : AH} {q : MR} {fs} (bt : Bt (fun c => c = b ∨ c = w) σ σ2) (hb : Md σ b q) (hq : q.attached = none) (hw : σ w = some (.inst 870 fs)) : ∀ {as zs : List (Addr × MR)}, Ownd base σ Cl lo as zs → b ∉ as.map (·.1) → Ownd base σ2 Cl lo as zs
  | [], [], _, _ => trivial
  | (a, _) :: as, (z, r) :: zs, h, hn => by
    simp only [List.map_cons, List.mem_cons, not_or] at hn
    obtain ⟨h1, h2, h3⟩ := h
    refine ⟨⟨bt.at_ _ _ h1.at_ (fun e => ?_), h1.kept, h1.pa, bt.at_ _ _ h1.m (fun e => ?_), bt.at_ _ _ h1.xs (fun e => ?_), bt.at_ _ _ h1.ys (fun e => ?_), h1.att, h1.num, h1.fr, ?_⟩, h2, Ownd.step bt hb hq hw h3 hn.2⟩
    · rcases e with e | e
      · have := h1.at_
        rw [e] at this
        have e2 := this.symm.trans hb
        injection e2 with e2; injection e2 with _ e2
        have := h1.att
        rw [MR.inj e2, hq] at this; cases this
      · exact ne_mw h1.at_ hw e
    · rcases e with e | e
      · exact ne_kd h1.m hb rfl e
      · exact ne_kd h1.m hw rfl e
    · rcases e with e | e
      · exact ne_kd h1.xs hb rfl e
      · exact ne_kd h1.xs hw rfl e
    · rcases e with e | e
      · exact ne_kd h1.ys hb rfl e
      · exact ne_kd h1.ys hw rfl e
    · obtain ⟨q', h4, h5⟩ := h1.own
      exact ⟨q', bt.at_ _ _ h4 (fun e => e.elim (fun e => hn.1 e.symm) (ne_mw h4 hw)), h5⟩
  | [], _ :: _, h, _ => h.elim
  | _ :: _, [], h, _ => h.elim
inductive OM1 (ch : List (Addr × MR)) (w a wa : Addr) (σ : AH) (k : Nat) (vm : VM) (σ' : AH) : Prop
  | mk (pre suf : List (Addr × MR)) : ch = pre ++ suf → k = suf.length → vm (Str.ofString "one") = some (oA (hd? suf)) → vm (Str.ofString "world") = some (.ref w) → vm (Str.ofString "value") = some (.ref a) → vm (Str.ofString "waiting") = some (.ref wa) → vm (Str.ofString "class_above") = some (.ref 494) → vm (Str.ofString "make_own") = some (.ref 501) → vm (Str.ofString "reversed") = some (.type "reversed") →
    Ext σ σ' → σ' wa = some (.list (pre.map fun p => .ref p.1)) → OM1 ch w a wa σ k vm σ'
inductive OM2 (ch : List (Addr × MR)) (Cl w a : Addr) (wr : WR) (σ σ' : AH) (k : Nat) (vm : VM) (σ1 : AH) : Prop
  | mk (pre suf zs : List (Addr × MR)) (l : Int) : ch = pre ++ suf → k = suf.length → vm (Str.ofString "world") = some (.ref w) → vm (Str.ofString "value") = some (.ref a) → vm (Str.ofString "make_own") = some (.ref 501) → Ownd σ σ1 Cl wr.last suf zs → Ko (suf.map (·.1)) w σ' σ1 →
      wr.last ≤ l → σ1 w = some (.inst 870 ({ wr with last := l, version := wr.version + suf.length } : WR).fs) → OM2 ch Cl w a wr σ σ' k vm σ1
theorem own_module_make {w a Cl md : Addr} {wr : WR} {kvs : List (Str × Value)} {r : MR} {rest : List (Addr × MR)} (W : Wo σ w wr kvs Cl md) (hE : ∀ pre b q suf, (a, r) :: rest = pre ++ (b, q) :: suf → Oe σ Cl b q suf) (hnd : (((a, r) :: rest).map (·.1)).Nodup) (hz : ((a, r) :: rest).length ≤ 50000) (hlo : ∀ b q, (b, q) ∈ (a, r) :: rest → q.number ≤ wr.last) :
    WCode (gx x) 7 487 [.ref w, .ref a] σ fun v σ' => ∃ z rz zs, v = .ref z ∧ Ownd σ σ' Cl wr.last ((a, r) :: rest) ((z, rz) :: zs) ∧ Ko (((a, r) :: rest).map (·.1)) w σ σ' ∧
      ∃ l, wr.last ≤ l ∧ σ' w = some (.inst 870 ({ wr with last := l, version := wr.version + ((a, r) :: rest).length } : WR).fs) := by
  have E0 := hE [] a r rest rfl
  obtain ⟨k0, ha⟩ := E0.at_
  refine WCode.ofP fk_487_2 rfl fun Pq hPq => ?_
  change WS _ _ _ (_ :: _) (argVM _ _ [(_, _), (_, _)]) _ _
  repeat walk_at "m"
  refine a_swap2 (a := Str.ofString "waiting") (b := Str.ofString "one") (by kernel_rfl) (by kernel_rfl) (by walk_at "hs") (by walk_at "sw") ?_
  repeat walk_at "m"
  intro wa hwa
  repeat walk_at "m"
  generalize hch : (a, r) :: rest = ch at hE hnd hz hlo ⊢
  refine WSt.whileP (OM1 ch w a wa σ) ch.length ⟨[], ch, rfl, rfl, by rw [← hch]; show _ = some (Value.ref a); walk_at "vm", by walk_at "vm", by walk_at "vm", by walk_at "vm", by walk_at "vm", by walk_at "vm", by walk_at "vm", by walk_at "ex", upd_same _ _ _⟩ ?_
  rintro k vm σ' ⟨pre, suf, hps, rfl, v1, v2, v3, v4, v5, v6, v7, e, h1⟩
  cases suf with
  | cons p suf =>
    obtain ⟨b, q⟩ := p
    have v1 : vm (Str.ofString "one") = some (.ref b) := v1
    have E := hE pre b q suf hps
    obtain ⟨kb, hb0⟩ := E.at_
    have hb := e _ _ hb0
    have go := MR.gn_own (r := { q with kept := kb }) E.own
    have c1 : ({ q with kept := kb } : MR).isClass = true := E.cls
    have c2 : ({ q with kept := kb } : MR).parent = hd? suf := E.pa
    have hzz : (pre.map fun p : Addr × MR => Value.ref p.1).length ≤ 100000 := by rw [hps] at hz; simp at hz ⊢; omega
    repeat walk_at "m"
    refine callc (k := 1) (class_above_spec (r := { q with kept := kb }) (by walk_at "hp")) (by decide) ?_
    rintro _ _ ⟨rfl, rfl⟩
    rw [c1, if_pos rfl, c2]
    repeat walk_at "m"
    exact ⟨suf.length, by simp, pre ++ [(b, q)], suf, by simp [hps], rfl, by walk_at "vm", by walk_at "vm", by walk_at "vm", by walk_at "vm", by walk_at "vm", by walk_at "vm", by walk_at "vm", by walk_at "ex", by rw [upd_same]; simp⟩
  | nil =>
    have v1 : vm (Str.ofString "one") = some .none := v1
    rw [List.append_nil] at hps
    subst hps
    have hat : ∀ b q, (b, q) ∈ ch → ∃ k, Md σ b { q with kept := k } := fun b q hb => by
      obtain ⟨s, t, e⟩ := List.append_of_mem hb
      exact (hE s b q t e).at_
    have hnw : ∀ (suf : List (Addr × MR)), (∀ p ∈ suf, p ∈ ch) → wa ∉ suf.map (·.1) := fun suf hs hm => by
      obtain ⟨⟨b, q⟩, hb, rfl⟩ := List.mem_map.mp hm
      obtain ⟨k9, h8⟩ := hat b q (hs _ hb)
      have h9 := hwa.symm.trans h8
      cases h9
    have hns : ∀ (suf : List (Addr × MR)) (c : Addr) (o : AO), (∀ p ∈ suf, p ∈ ch) → σ c = some o → o.kd ≠ 0 → c ∉ suf.map (·.1) := fun suf c o hs hc ho hm => by
      obtain ⟨⟨b, q⟩, hb, rfl⟩ := List.mem_map.mp hm
      obtain ⟨k9, h8⟩ := hat b q (hs _ hb)
      have h9 := hc.symm.trans h8
      cases h9
      exact ho rfl
    repeat walk_at "m"
    refine WSt.forRev (by kernel_rfl) (by kernel_rfl) (by walk_at "hs2") (by walk_at "hs") ?_
    repeat walk_at "m"
    refine ⟨wa, _, rfl, h1, Turns.of (OM2 ch Cl w a wr σ σ') ⟨ch, [], [], wr.last, by simp, rfl, by walk_at "vm", by walk_at "vm", by walk_at "vm", trivial, ⟨(fun _ _ h => by cases h), fun b o hb _ _ => hb, fun _ h => h⟩, Int.le_refl _, ?_⟩ ?_ ?_ ?_⟩
    · simpa using e _ _ W.at_
    · rintro k vm σ1 ⟨pre, suf, zs, l, rfl, rfl, u1, u2, u3, ow, ko, hl, hw⟩
      refine ko.ot _ _ h1 ?_ ?_
      · exact hnw suf (fun p hp => List.mem_append_right _ hp)
      · exact ne_kd h1 (e _ _ W.at_) rfl
    · rintro k y vm σ1 hy ⟨pre, suf, zs, l, rfl, rfl, u1, u2, u3, ow, ko, hl, hw⟩
      obtain ⟨pre', b, q, rfl, rfl⟩ := rev_get rfl hy
      have E := hE pre' b q suf (by simp)
      have hbs : b ∉ suf.map (·.1) := by
        intro h
        simp only [List.map_append, List.map_cons, List.map_nil, List.append_assoc, List.cons_append, List.nil_append] at hnd
        exact (List.nodup_cons.mp (List.nodup_append.mp hnd).2.1).1 h
      have w0 := e _ _ W.at_
      obtain ⟨kb, Eat⟩ := E.at_
      have hb1 : Md σ1 b { q with kept := kb } := ko.ot _ _ (e _ _ Eat) hbs (ne_mw (e _ _ Eat) w0)
      have sub : ∀ p ∈ suf, p ∈ pre' ++ [(b, q)] ++ suf := fun p hp => by simp [hp]
      have W1 : Wo σ1 w { wr with last := l, version := wr.version + suf.length } kvs Cl md := ⟨hw, ko.ot _ _ (e _ _ W.made) (hns suf _ _ sub W.made (by simp [AO.kd])) (ne_kd W.made W.at_ rfl), ko.ot _ _ (e _ _ W.nat) (hns suf _ _ sub W.nat (by simp [AO.kd])) (ne_kd W.nat W.at_ rfl), ko.ot _ _ (e _ _ W.pre) (hns suf _ _ sub W.pre (by simp [AO.kd])) (ne_kd W.pre W.at_ rfl), W.cls, W.mod⟩
      have hp : (q.parent = none ∧ q.owner = some ((hd? zs).getD Cl)) ∨ (∃ b' q', q.parent = some b' ∧ Md σ1 b' q' ∧ q'.own = some ((hd? zs).getD Cl)) := by
        cases suf with
        | nil =>
          cases zs with
          | nil => exact .inl ⟨E.pa, E.top rfl⟩
          | cons _ _ => exact ow.elim
        | cons p suf =>
          obtain ⟨b', q0⟩ := p
          cases zs with
          | nil => exact ow.elim
          | cons p zs =>
            obtain ⟨z', r'⟩ := p
            obtain ⟨q', h4, h5⟩ := ow.1.own
            exact .inr ⟨b', q', E.pa, h4, h5⟩
      repeat walk_at "m"
      refine callc (k := 6) (make_own_spec (pp := (hd? zs).getD Cl) W1 hb1 E.cls E.att E.nat hp) (by decide) ?_
      rintro _ σ2 ⟨z, f, m, c, xx, yy, hz1, hm1, hx1, hy1, fz, fm, hb2, hw2, bt⟩
      repeat walk_at "m"
      refine ⟨pre', (b, q) :: suf, (z, _) :: zs, l + 1, by simp, by simp, by walk_at "vm", by walk_at "vm", by walk_at "vm", ⟨⟨hz1, rfl, rfl, hm1, hx1, hy1, rfl, by show wr.last < l + 1; omega, Ext.none e (ko.no _ fm), ⟨_, hb2, rfl⟩⟩, ?_, ow.step bt hb1 E.att hw hbs⟩, ⟨?_, ?_, fun d hd => ko.no _ (bt.no _ hd)⟩, by omega, ?_⟩
      · intro p hp e2
        have := ow.mem p hp
        rw [e2] at this
        rw [show σ1 m = some (.sdict []) from this] at fm; cases fm
      · intro d rd hd hmd
        simp only [List.map_cons, List.mem_cons] at hd
        by_cases hdb : d = b
        · subst hdb
          have e2 := hmd.symm.trans (e _ _ Eat)
          injection e2 with e2; injection e2 with _ e2
          obtain rfl := MR.inj e2
          exact ⟨some z, hb2⟩
        · obtain ⟨o, ho⟩ := ko.md d rd (hd.resolve_left hdb) hmd
          exact ⟨o, bt.at_ _ _ ho (fun e => e.elim hdb (ne_mw ho hw))⟩
      · intro d o hd h3 h4
        simp only [List.map_cons, List.mem_cons, not_or] at h3
        exact bt.at_ _ _ (ko.ot d o hd h3.2 h4) (fun e => e.elim h3.1 h4)
      · rw [hw2]
        simp only [List.length_cons, Int.natCast_add, Int.natCast_one, Int.add_assoc]
    · rintro vm σ1 ⟨pre, suf, zs, l, hps, hk, u1, u2, u3, ow, ko, hl, hw⟩
      obtain rfl : pre = [] := by
        rw [hps] at hk; simpa using hk
      rw [List.nil_append] at hps
      subst hps
      subst hch
      cases zs with
      | nil => exact ow.elim
      | cons p zs =>
        obtain ⟨z, rz⟩ := p
        obtain ⟨q', h4, h5⟩ := ow.1.own
        have go := MR.gs_own h5
        repeat walk_at "m"
        exact ⟨z, rz, zs, rfl, ow, ⟨fun d rd hd hm => ko.md d rd hd (e _ _ hm), fun d o hd h3 h4 => ko.ot d o (e _ _ hd) h3 h4, fun d hd => Ext.none e (ko.no d hd)⟩, l, hl, hw⟩
end
-- P16
section
variable {x : XX} {n : Nat} {σ : AH}
/-- what _law_put does -/
abbrev Put (σ σ' : AH) (w a : Addr) (wr : WR) (r : MR) (kvs : List (Str × Value)) (nm bo : Str) : Prop := ∃ e t σ1, σ e = none ∧ Ext σ σ1 ∧ σ1 e = some (.inst 256 (ER.fs ⟨nm, a, Str.ofString "reader", bo, Str.ofString "public", t⟩)) ∧
  σ' = upd (upd σ1 r.methods (.sdict (stored kvs nm (.ref e)))) w (.inst 870 ({ wr with version := wr.version + 1 } : WR).fs)
theorem law_put_spec {w a : Addr} {r : MR} {wr : WR} {kvs : List (Str × Value)} {nm bo : Str} (ha : Md σ a r) (hh : r.attached = none ∨ ∃ b q', r.attached = some b ∧ Md σ b q') (hw : σ w = some (.inst 870 wr.fs)) (hm : σ r.methods = some (.sdict kvs)) (hl : kvs.length ≤ 100000) :
    WCode (gx x) 4 881 [.ref w, .ref a, .str nm 0, .str bo 0] σ fun _ σ' => Put σ σ' w a wr r kvs nm bo := by
  refine WCode.ofP fk_881_4 rfl fun Pq hPq => ?_
  change WS _ _ _ (_ :: _) (argVM _ _ [(_, _), (_, _), (_, _), (_, _)]) _ _
  repeat walk_at "m"
  refine (new_Entry.le (by decide)).mono ?_
  rintro _ σ1 ⟨e, t, rfl, fe, e1, he⟩
  repeat walk_at "m"
  refine callc (k := 2) (define_spec (e1 _ _ ha) (hh.imp id fun ⟨b, q', h1, h2⟩ => ⟨b, q', h1, e1 _ _ h2⟩) (e1 _ _ hw) (e1 _ _ hm) he hl) (by decide) ?_
  rintro _ _ rfl
  repeat walk_at "m"
  exact ⟨e, t, σ1, fe, e1, he, rfl⟩
theorem law_plain_none : WCode (gx x) 2 888 [.none] σ fun v σ' => v = .none ∧ σ = σ' := by
  refine WCode.ofP fk_888_1 rfl fun Pq hPq => ?_
  change WS _ _ _ (_ :: _) (argVM _ _ [(_, _)]) _ _
  repeat walk_at "m"
  rfl
theorem law_plain_some {e o : Addr} {er : ER} {s : Str} (he : σ e = some (.inst 256 er.fs)) (ho : er.owner = o) (hn : WCode (gx x) 1 320 [.ref o] σ fun v σ' => v = .str s 0 ∧ Ext σ σ') : WCode (gx x) 2 888 [.ref e] σ fun v σ' => ∃ t, v = .ref t ∧ σ t = none ∧ Ext σ σ' ∧ σ' t = some (.tup [.str er.body 0, .str s 0]) := by
  subst ho
  refine WCode.ofP fk_888_1 rfl fun Pq hPq => ?_
  change WS _ _ _ (_ :: _) (argVM _ _ [(_, _)]) _ _
  repeat walk_at "m"
  refine callc (k := 1) hn (by decide) ?_
  rintro _ σ1 ⟨rfl, e1⟩
  repeat walk_at "m"
  intro t ht
  repeat walk_at "m"
  exact ⟨t, rfl, Ext.none e1 ht, by walk_at "ex", upd_same _ _ _⟩
end
-- P17
section
variable {x : XX} {n : Nat} {σ : AH}
theorem WCall.minI {G : GX} {P : Value → AH → Prop} {i j t u} (h : P (.int (if j < i then j else i) 0) σ) : WCall G n (.builtin "min") [.int i t, .int j u] σ P := by
  intro l e c m ex s Q E ok I kk
  obtain ⟨a, b, rfl, e1, e2⟩ := args2 e
  obtain ⟨t1, rfl⟩ := er_is_int e1
  obtain ⟨t2, rfl⟩ := er_is_int e2
  refine min_two_ints ok.hh fun h' tk hold => ?_
  by_cases hji : j < i
  · rw [if_pos hji] at h ⊢
    exact kk (.int j _) σ h' tk h (I.keeps hold)
  · rw [if_neg hji] at h ⊢
    exact kk (.int i _) σ h' tk h (I.keeps hold)
def cName (i : Nat) : Str := Str.ofString "C" ++ Str.ofString (toString (i : Int))
theorem dig_len : ∀ i : Fin 600, (Str.ofString (toString ((i : Nat) : Int))).length ≤ 10 := by decide +kernel
theorem cName_len {i : Nat} (h : i < 600) : (cName i).length ≤ 1000 := by
  have := dig_len ⟨i, h⟩
  rw [cName, str_len_app]
  have e : (Str.ofString "C").length = 1 := by decide
  simp only at this
  omega
theorem cName0 : Str.ofString "C0" = cName 0 := by decide +kernel
/-- a class of the row -/
structure Cr (σ : AH) (Cl up : Addr) (num : Int) (nm : Str) (a : Addr) (r : MR) (kv : List (Str × Value)) : Prop where
  at_ : Md σ a r
  num : r.number = num
  ow : r.owner = some Cl
  own : r.own = none
  nm : r.nm = some nm
  cls : r.isClass = true
  pa : r.parent = some up
  out : r.outer = none
  att : r.attached = none
  nat : r.native = none
  kept : r.kept = none
  m : σ r.methods = some (.sdict kv)
  xs : σ r.mixed = some (.list [])
  ys : σ r.ahead = some (.list [])
def CRows (σ : AH) (Cl O : Addr) (kv : Nat → List (Str × Value)) : List (Addr × MR) → Prop
  | [] => True
  | (a, r) :: rest => Cr σ Cl ((hd? rest).getD O) (7 + rest.length) (cName rest.length) a r (kv rest.length) ∧ (∀ p ∈ rest, p.1 ≠ a ∧ p.2.methods ≠ r.methods) ∧ CRows σ Cl O kv rest
/-- what makes a new row keep the old -/
theorem Cr.keep {σ σ' : AH} {Cl up a : Addr} {num : Int} {nm : Str} {r : MR} {kv : List (Str × Value)} (h : Cr σ Cl up num nm a r kv) (h1 : Md σ' a r) (h2 : ∀ b o, σ b = some o → o.kd ≠ 0 → σ' b = some o) : Cr σ' Cl up num nm a r kv :=
  ⟨h1, h.num, h.ow, h.own, h.nm, h.cls, h.pa, h.out, h.att, h.nat, h.kept, h2 _ _ h.m (by simp [AO.kd]), h2 _ _ h.xs (by simp [AO.kd]), h2 _ _ h.ys (by simp [AO.kd])⟩
theorem CRows.keep {σ σ' : AH} {Cl O : Addr} {kv : Nat → List (Str × Value)} (h1 : ∀ a r, Md σ a r → Md σ' a r) (h2 : ∀ b o, σ b = some o → o.kd ≠ 0 → σ' b = some o) : ∀ {cs : List (Addr × MR)}, CRows σ Cl O kv cs → CRows σ' Cl O kv cs
  | [], _ => trivial
  | (a, r) :: rest, h => ⟨h.1.keep (h1 _ _ h.1.at_) h2, h.2.1, CRows.keep h1 h2 h.2.2⟩
theorem CRows.mem {Cl O : Addr} {kv : Nat → List (Str × Value)} : ∀ {cs : List (Addr × MR)}, CRows σ Cl O kv cs → ∀ p ∈ cs, Md σ p.1 p.2 ∧ ∃ k, σ p.2.methods = some (.sdict k)
  | [], _, _, h => by cases h
  | (a, r) :: rest, h, p, hp => by
    rcases List.mem_cons.mp hp with rfl | hp
    · exact ⟨h.1.at_, _, h.1.m⟩
    · exact CRows.mem h.2.2 p hp
theorem CRows.lists {Cl O : Addr} {kv : Nat → List (Str × Value)} : ∀ {cs : List (Addr × MR)}, CRows σ Cl O kv cs → ∀ p ∈ cs, σ p.2.mixed = some (.list []) ∧ σ p.2.ahead = some (.list [])
  | [], _, _, h => by cases h
  | (a, r) :: rest, h, p, hp => by
    rcases List.mem_cons.mp hp with rfl | hp
    · exact ⟨h.1.xs, h.1.ys⟩
    · exact CRows.lists h.2.2 p hp
theorem W5.keep {σ σ' : AH} {w O B C M K : Addr} {wr wr' : WR} (h : W5 σ w wr O B C M K) (h1 : σ' w = some (.inst 870 wr'.fs)) (e : wr'.made = wr.made ∧ wr'.natives = wr.natives ∧ wr'.prelude = wr.prelude) (h2 : ∀ b o, σ b = some o → b ≠ w → σ' b = some o) : W5 σ' w wr' O B C M K := by
  obtain ⟨e1, e2, e3⟩ := e
  have key : ∀ {a ow num nm isC pa ms}, Bi σ wr.made a num ow nm isC pa ms → Bi σ' wr'.made a num ow nm isC pa ms := fun hb => by
    obtain ⟨f, m, c, xx, yy, q1, q2, q3, q4, q5⟩ := hb.ex
    exact ⟨f, m, c, xx, yy, h2 _ _ q1 (ne_mw q1 h.at_), h2 _ _ q2 (ne_kd q2 h.at_ rfl), h2 _ _ q3 (ne_kd q3 h.at_ rfl), h2 _ _ q4 (ne_kd q4 h.at_ rfl), by rw [e1]; exact q5⟩
  exact ⟨h1, by rw [e1]; exact h2 _ _ h.made (ne_kd h.made h.at_ rfl), by rw [e2]; exact h2 _ _ h.nat (ne_kd h.nat h.at_ rfl), by rw [e3]; exact h2 _ _ h.pre (ne_kd h.pre h.at_ rfl), key h.bO, key h.bB, key h.bC, key h.bM, key h.bK⟩
theorem kv5_C (O B C M K : Addr) : valueAt (kv5 O B C M K) sC = some (.ref C) := by
  rw [valueAt_stored, if_neg (by decide), valueAt_stored, if_neg (by decide), valueAt_stored, if_pos rfl]
theorem kv5_M (O B C M K : Addr) : valueAt (kv5 O B C M K) sM = some (.ref M) := by
  rw [valueAt_stored, if_neg (by decide), valueAt_stored, if_pos rfl]
theorem kv5_O (O B C M K : Addr) : valueAt (kv5 O B C M K) sO = some (.ref O) := by
  rw [valueAt_stored, if_neg (by decide), valueAt_stored, if_neg (by decide), valueAt_stored, if_neg (by decide), valueAt_stored, if_neg (by decide), valueAt_stored, if_pos rfl]
/-- a new class on top of the row -/
theorem CRows.push {σ' : AH} {w O B C M K : Addr} {wr : WR} {cs : List (Addr × MR)} {v : Value} (W : W5 σ w wr O B C M K) (h : CRows σ C O (fun _ => []) cs) (hl : wr.last = 6 + cs.length) (hN : NewM σ σ' w wr C (some (cName cs.length)) true (some ((hd? cs).getD O)) none v) :
    ∃ z r, v = .ref z ∧ CRows σ' C O (fun _ => []) ((z, r) :: cs) ∧ W5 σ' w { wr with last := wr.last + 1 } O B C M K ∧ σ z = none ∧ (∀ b o, σ b = some o → b ≠ w → σ' b = some o) ∧ (∀ b, σ' b = none → σ b = none) ∧ σ r.methods = none := by
  obtain ⟨z, f, m, c, xx, yy, rfl, N⟩ := hN
  have hk : ∀ b o, σ b = some o → b ≠ w → σ' b = some o := fun b o hb hn => N.ext b o (upd_at hn hb)
  have fz := upd_nn N.fz
  have fm := upd_nn N.fm
  refine ⟨z, _, rfl, ⟨⟨N.at_, by show wr.last + 1 = _; omega, rfl, rfl, rfl, rfl, rfl, rfl, rfl, rfl, rfl, N.m, N.xs, N.ys⟩, fun p hp => ?_, h.keep (fun a r ha => hk a _ ha (ne_mw ha W.at_)) (fun b o hb ho => hk b o hb (fun e => by rw [e, W.at_] at hb; cases hb; exact ho rfl))⟩, W.keep (N.ext _ _ (upd_same _ _ _)) ⟨rfl, rfl, rfl⟩ hk, fz, hk, fun b hb => upd_nn (Ext.none N.ext hb), fm⟩
  obtain ⟨h1, k, h2⟩ := h.mem p hp
  refine ⟨fun e => ?_, fun e => ?_⟩
  · rw [e] at h1
    exact absurd (fz.symm.trans h1) (by simp)
  · rw [e] at h2
    exact absurd (fm.symm.trans h2) (by simp)
/-- the heap without one address -/
def del (σ : AH) (a : Addr) : AH := fun b => if b = a then none else σ b
theorem del_at {a b : Addr} {o : AO} (h : del σ a b = some o) : b ≠ a ∧ σ b = some o := by
  unfold del at h
  by_cases e : b = a
  · rw [if_pos e] at h; cases h
  · rw [if_neg e] at h; exact ⟨e, h⟩
theorem del_of {a b : Addr} {o : AO} (hn : b ≠ a) (h : σ b = some o) : del σ a b = some o := by unfold del; rw [if_neg hn]; exact h
theorem del_none {a b : Addr} (h : σ b = none) : del σ a b = none := by
  unfold del; split
  · rfl
  · exact h
theorem del_upd (σ : AH) (a : Addr) (o : AO) : del (upd σ a o) a = del σ a := by
  funext b; unfold del upd
  by_cases e : b = a <;> simp [e]
theorem NewMod.del {σ' : AH} {z a w : Addr} {o ao : AO} {r : MR} (h : NewMod (upd σ w o) σ' z r) (ha : σ a = some ao) (hn : a ≠ w) : NewMod (upd (Mine.del σ a) w o) (Mine.del σ' a) z r := by
  have ne : ∀ b, (upd σ w o) b = none → b ≠ a := fun b hb e => by rw [e, upd_ne _ _ hn, ha] at hb; cases hb
  have no : ∀ b, (upd σ w o) b = none → (upd (Mine.del σ a) w o) b = none := fun b hb => by
    by_cases e : b = w
    · rw [e, upd_same] at hb; cases hb
    · rw [upd_ne _ _ e] at hb ⊢; exact del_none hb
  refine ⟨fun b o' hb => ?_, no _ h.fz, del_of (ne _ h.fz) h.at_, no _ h.fm, no _ h.fx, no _ h.fa, del_of (ne _ h.fm) h.m, del_of (ne _ h.fx) h.xs, del_of (ne _ h.fa) h.ys, h.xy⟩
  by_cases e : b = w
  · subst e
    rw [upd_same] at hb; cases hb
    exact del_of hn.symm (h.ext _ _ (upd_same _ _ _))
  · rw [upd_ne _ _ e] at hb
    obtain ⟨h1, h2⟩ := del_at hb
    exact del_of h1 (h.ext _ _ (upd_at e h2))
def dels (σ : AH) (l : List Addr) : AH := fun b => if b ∈ l then none else σ b
theorem dels_at {l : List Addr} {b : Addr} {o : AO} (h : dels σ l b = some o) : b ∉ l ∧ σ b = some o := by
  unfold dels at h
  by_cases e : b ∈ l
  · rw [if_pos e] at h; cases h
  · rw [if_neg e] at h; exact ⟨e, h⟩
theorem dels_of {l : List Addr} {b : Addr} {o : AO} (hn : b ∉ l) (h : σ b = some o) : dels σ l b = some o := by unfold dels; rw [if_neg hn]; exact h
theorem CRows.low {σ σ' : AH} {Cl O m : Addr} {N : Nat} {kv : Nat → List (Str × Value)} {kv' : List (Str × Value)} (h1 : ∀ a r, Md σ a r → Md σ' a r) (h2 : ∀ b o, σ b = some o → o.kd ≠ 0 → b ≠ m → σ' b = some o) :
    ∀ {cs : List (Addr × MR)}, CRows σ Cl O kv cs → cs.length ≤ N → (∀ p ∈ cs, p.2.methods ≠ m ∧ p.2.mixed ≠ m ∧ p.2.ahead ≠ m) → CRows σ' Cl O (fun j => if j = N then kv' else kv j) cs
  | [], _, _, _ => trivial
  | (a, r) :: rest, h, hN, hm => by
    have hN' : rest.length < N := by simp at hN; omega
    obtain ⟨q1, q2, q3⟩ := hm _ (List.mem_cons_self ..)
    refine ⟨?_, h.2.1, CRows.low h1 h2 h.2.2 (by omega) fun p hp => hm p (List.mem_cons_of_mem _ hp)⟩
    have e : (fun j => if j = N then kv' else kv j) rest.length = kv rest.length := if_neg (by omega)
    rw [e]
    have c := h.1
    exact ⟨h1 _ _ c.at_, c.num, c.ow, c.own, c.nm, c.cls, c.pa, c.out, c.att, c.nat, c.kept, h2 _ _ c.m (by simp [AO.kd]) q1, h2 _ _ c.xs (by simp [AO.kd]) q2, h2 _ _ c.ys (by simp [AO.kd]) q3⟩
theorem CRows.upd {σ σ' : AH} {Cl O : Addr} {kv : Nat → List (Str × Value)} {kv' : List (Str × Value)} {a : Addr} {r : MR} {suf : List (Addr × MR)} (h1 : ∀ a r, Md σ a r → Md σ' a r) (h2 : ∀ b o, σ b = some o → o.kd ≠ 0 → b ≠ r.methods → σ' b = some o) (hm : σ' r.methods = some (.sdict kv')) :
    ∀ {pre : List (Addr × MR)}, CRows σ Cl O kv (pre ++ (a, r) :: suf) → CRows σ' Cl O (fun j => if j = suf.length then kv' else kv j) (pre ++ (a, r) :: suf)
  | [], h => by
    have c := h.1
    have n2 : r.mixed ≠ r.methods := ne_kd c.xs c.m rfl
    have n3 : r.ahead ≠ r.methods := ne_kd c.ys c.m rfl
    refine ⟨?_, h.2.1, CRows.low h1 h2 h.2.2 (Nat.le_refl _) fun p hp => ⟨(h.2.1 p hp).2, ?_⟩⟩
    · have e : (fun j => if j = suf.length then kv' else kv j) suf.length = kv' := if_pos rfl
      rw [e]
      exact ⟨h1 _ _ c.at_, c.num, c.ow, c.own, c.nm, c.cls, c.pa, c.out, c.att, c.nat, c.kept, hm, h2 _ _ c.xs (by simp [AO.kd]) n2, h2 _ _ c.ys (by simp [AO.kd]) n3⟩
    · obtain ⟨x1, x2⟩ := CRows.lists h.2.2 p hp
      exact ⟨ne_kd x1 c.m rfl, ne_kd x2 c.m rfl⟩
  | (b, q) :: pre, h => by
    have c := h.1
    have hr := (CRows.mem h.2.2 (a, r) (by simp)).2
    obtain ⟨k, hk⟩ := hr
    refine ⟨?_, h.2.1, CRows.upd h1 h2 hm h.2.2⟩
    have e : (fun j => if j = suf.length then kv' else kv j) (pre.append ((a, r) :: suf)).length = kv (pre.append ((a, r) :: suf)).length := if_neg (by simp; omega)
    rw [e]
    exact ⟨h1 _ _ c.at_, c.num, c.ow, c.own, c.nm, c.cls, c.pa, c.out, c.att, c.nat, c.kept, h2 _ _ c.m (by simp [AO.kd]) (Ne.symm (h.2.1 (a, r) (by simp)).2), h2 _ _ c.xs (by simp [AO.kd]) (ne_kd c.xs hk rfl), h2 _ _ c.ys (by simp [AO.kd]) (ne_kd c.ys hk rfl)⟩
theorem CRows.at_ {Cl O : Addr} {kv : Nat → List (Str × Value)} {a : Addr} {r : MR} {suf : List (Addr × MR)} : ∀ {pre : List (Addr × MR)}, CRows σ Cl O kv (pre ++ (a, r) :: suf) → Cr σ Cl ((hd? suf).getD O) (7 + suf.length) (cName suf.length) a r (kv suf.length)
  | [], h => h.1
  | _ :: pre, h => CRows.at_ (pre := pre) h.2.2
theorem CRows.nodup {Cl O : Addr} {kv : Nat → List (Str × Value)} : ∀ {cs : List (Addr × MR)}, CRows σ Cl O kv cs → (cs.map (·.1)).Nodup
  | [], _ => List.nodup_nil
  | (a, r) :: rest, h => by
    refine List.nodup_cons.mpr ⟨fun hm => ?_, CRows.nodup h.2.2⟩
    obtain ⟨p, hp, e⟩ := List.mem_map.mp hm
    exact (h.2.1 p hp).1 e
/-- a method put into a class of the row -/
theorem CRows.put {σ' : AH} {C O w a : Addr} {wr : WR} {kv : Nat → List (Str × Value)} {r : MR} {pre suf : List (Addr × MR)} {nm bo : Str} (h : CRows σ C O kv (pre ++ (a, r) :: suf)) (hw : σ w = some (.inst 870 wr.fs)) (p : Put σ σ' w a wr r (kv suf.length) nm bo) :
    ∃ e t, CRows σ' C O (fun j => if j = suf.length then stored (kv suf.length) nm (.ref e) else kv j) (pre ++ (a, r) :: suf) ∧ σ' e = some (.inst 256 (ER.fs ⟨nm, a, Str.ofString "reader", bo, Str.ofString "public", t⟩)) ∧
      σ' w = some (.inst 870 ({ wr with version := wr.version + 1 } : WR).fs) ∧ (∀ b o, σ b = some o → b ≠ w → b ≠ r.methods → σ' b = some o) := by
  obtain ⟨e, t, σ1, fe, e1, he, rfl⟩ := p
  have c := h.at_
  have nmw : r.methods ≠ w := ne_kd c.m hw rfl
  have new : e ≠ w := fun q => by rw [q, hw] at fe; cases fe
  have nem : e ≠ r.methods := fun q => by rw [q, c.m] at fe; cases fe
  have k : ∀ b o, σ b = some o → b ≠ w → b ≠ r.methods → (Mine.upd (Mine.upd σ1 r.methods (.sdict (stored (kv suf.length) nm (.ref e)))) w (.inst 870 ({ wr with version := wr.version + 1 } : WR).fs)) b = some o := fun b o hb h1 h2 => upd_at h1 (upd_at h2 (e1 _ _ hb))
  exact ⟨e, t, h.upd (fun b q hb => k _ _ hb (ne_mw hb hw) (ne_kd c.m hb rfl).symm) (fun b o hb ho hn => k _ _ hb (fun q => by rw [q, hw] at hb; cases hb; exact ho rfl) hn) (upd_at nmw (upd_same _ _ _)), upd_at new (upd_at nem he), upd_same _ _ _, k⟩
end
-- P18
section
variable {x : XX} {n : Nat} {σ : AH}
/-- the row of classes stands -/
structure CSt (σ : AH) (w rl O B C M K : Addr) (wr : WR) (kv : Nat → List (Str × Value)) (cs : List (Addr × MR)) : Prop where
  W : W5 (dels σ (rl :: cs.map (·.2.methods))) w wr O B C M K
  rows : CRows (del σ rl) C O kv cs
  last : wr.last = 6 + cs.length
  rl : σ rl = some (.list (cs.map fun p => Value.ref p.1).reverse)
theorem vset_other {vm base : VM} {k : Str} {v : Value} (g : ∀ y, (y == k) = false → vm y = base y) : ∀ y, (y == k) = false → (vm.set k v) y = base y := fun y hy => by
  unfold VM.set
  rw [if_neg (by simpa using hy)]
  exact g y hy
inductive CL1 (base : VM) (w rl O B C M K : Addr) (i : Nat) (vm : VM) (σ' : AH) : Prop
  | mk : (∀ y, (y == Str.ofString "k") = false → vm y = base y) → (cs : List (Addr × MR)) → (wr' : WR) → CSt σ' w rl O B C M K wr' (fun _ => []) cs → cs.length = i + 1 → wr'.version = 0 → CL1 base w rl O B C M K i vm σ'
theorem classes_rows {many at_ : Nat} {P : Flow → VM → AH → Prop} (hm : 1 ≤ many) (hm2 : many ≤ 550)
    (hP : ∀ w rl O B C M K wr cs vm σ', CSt σ' w rl O B C M K wr (fun _ => []) cs → cs.length = many → wr.version = 0 →
      (∀ y, (y == Str.ofString "k") = false → vm y = (((argVM (gx x) (sf x 898) [(Str.ofString "many", .int many 0), (Str.ofString "at", .int at_ 0)]).set (Str.ofString "world") (.ref w)).set (Str.ofString "rows") (.ref rl)) y) →
      WS (gx x) 16 (sf x 898) ((bf x 898).drop 3) vm σ' P) :
    WS (gx x) 16 (sf x 898) (bf x 898) (argVM (gx x) (sf x 898) [(Str.ofString "many", .int many 0), (Str.ofString "at", .int at_ 0)]) σ P := by
  change WS _ _ _ (_ :: _) _ _ _
  repeat walk_at "m"
  refine WE.sdict fun N hN => ?_
  repeat walk_at "m"
  refine WE.sdict fun Pd hPd => ?_
  repeat walk_at "m"
  refine Bin.powI (by decide) (by decide) (by decide) ?_
  repeat walk_at "m"
  refine (new_World (by walk_at "hp") (by walk_at "hp")).le (by decide) |>.mono ?_
  rintro _ σ1 ⟨w, wr, O, B, C, M, K, rfl, W, hl, hv, e1, fw⟩
  have w1 := W.at_
  have d1 := W.made
  repeat walk_at "m"
  refine callc (k := 1) (builtin_spec w1 d1 (kv5_O O B C M K)) (by decide) ?_
  rintro _ _ ⟨rfl, rfl⟩
  repeat walk_at "m"
  refine callc (k := 5) (new_module4 (nm := some (Str.ofString "C0")) w1 d1 (kv5_C O B C M K) (kv5_M O B C M K)) (by decide) ?_
  intro v σ2 hN
  rw [cName0] at hN
  obtain ⟨z, r, rfl, hr, W2, fz, k2, n2, hrm⟩ := CRows.push (cs := []) W trivial (by simpa using hl) hN
  repeat walk_at "m"
  intro rl hrl
  repeat walk_at "m"
  refine WSt.for_ (WIt.range2 ?_ (by kernel_rfl) (by walk_at "hs")) (by kernel_rfl) (by walk_at "hs2")
  iterate 1 walk_at "m"
  refine ⟨rfl, ?_⟩
  repeat walk_at "m"
  obtain ⟨m, rfl⟩ : ∃ m, many = m + 1 := ⟨many - 1, by omega⟩
  generalize hbase : (((argVM (gx x) (sf x 898) [(Str.ofString "many", Value.int ((m + 1 : Nat) : Int) 0), (Str.ofString "at", Value.int at_ 0)]).set (Str.ofString "world") (.ref w)).set (Str.ofString "rows") (.ref rl)) = base at hP ⊢
  have b1 : base (Str.ofString "rows") = some (.ref rl) := by rw [← hbase]; walk_at "vm"
  have b2 : base (Str.ofString "world") = some (.ref w) := by rw [← hbase]; walk_at "vm"
  have b3 : base (Str.ofString "str") = some (.type "str") := by rw [← hbase]; walk_at "vm"
  have k5 : ∀ b o, σ2 b = some o → del σ2 rl b = some o := fun b o hb => del_of (fun e => by rw [e, hrl] at hb; cases hb) hb
  refine ⟨1, (m + 1 : Nat), 0, 0, m, rfl, by omega, by decide, by omega, Turns.of (CL1 base w rl O B C M K) ⟨fun _ _ => rfl, [(z, r)], { wr with last := wr.last + 1 }, ⟨?_, ?_, ?_, ?_⟩, rfl, hv⟩ (fun _ _ _ _ => trivial) ?_ ?_⟩
  · have hmn : ∀ b, (∃ o, σ1 b = some o) → b ∉ rl :: [(z, r)].map (·.2.methods) := fun b hb hm => by
      obtain ⟨o, hb⟩ := hb
      simp only [List.map_cons, List.map_nil, List.mem_cons, List.not_mem_nil, or_false] at hm
      rcases hm with rfl | rfl
      · rw [n2 _ hrl] at hb; cases hb
      · rw [hrm] at hb; cases hb
    exact W.keep (dels_of (hmn _ ⟨_, w1⟩) (upd_old hrl W2.at_)) ⟨rfl, rfl, rfl⟩ fun b o hb hn => dels_of (hmn _ ⟨_, hb⟩) (upd_old hrl (k2 _ _ hb hn))
  · rw [del_upd]
    exact hr.keep (fun a r ha => k5 _ _ ha) fun b o hb _ => k5 _ _ hb
  · show wr.last + 1 = 6 + 1
    omega
  · exact upd_same _ _ _
  · rintro i y vm σ' hy ⟨g, cs, wr', S, hlen, hv'⟩
    obtain ⟨hi, rfl⟩ : i < m ∧ y = .int (1 + i) 0 := by
      have h1 := List.getElem?_eq_some_iff.mp hy
      obtain ⟨h1, h2⟩ := h1
      rw [rangeL_length] at h1
      refine ⟨h1, ?_⟩
      rw [← h2]
      simp [rangeL]
    have v1 : vm (Str.ofString "rows") = some (.ref rl) := (g _ (by decide)).trans b1
    have v2 : vm (Str.ofString "world") = some (.ref w) := (g _ (by decide)).trans b2
    have v3 : vm (Str.ofString "str") = some (.type "str") := (g _ (by decide)).trans b3
    have w3 := (dels_at S.W.at_).2
    have d3 := (dels_at S.W.made).2
    have WS0 : W5 (del σ' rl) w wr' O B C M K := S.W.keep (del_of (fun e => (dels_at S.W.at_).1 (by simp [e])) w3) ⟨rfl, rfl, rfl⟩ fun b o hb _ => del_of (fun e => (dels_at hb).1 (by simp [e])) (dels_at hb).2
    have rl3 := S.rl
    repeat walk_at "m"
    refine WCall.strInt ?_ ?_
    · exact Nat.lt_of_le_of_lt (Nat.log2_le_self _) (by omega)
    repeat walk_at "m"
    have hcn : Str.ofString "C" ++ Str.ofString (toString (1 + (i : Int))) = cName cs.length := by
      rw [cName, hlen]; congr 3; omega
    refine Bin.addStr (by have := cName_len (i := cs.length) (by omega); rw [← hcn, str_len_app] at this; omega) ?_
    rw [hcn]
    repeat walk_at "m"
    refine WE.neg (i := 1) (t := 0) ?_
    repeat walk_at "m"
    cases cs with
    | nil => simp at hlen
    | cons p cs =>
    obtain ⟨a, ra⟩ := p
    have hidx : ((((a, ra) :: cs).map fun p => Value.ref p.1).reverse)[((-1 : Int) + (((((a, ra) :: cs).map fun p => Value.ref p.1).reverse).length : Int)).toNat]? = some (.ref a) := by
      have e : ((-1 : Int) + (((((a, ra) :: cs).map fun p => Value.ref p.1).reverse).length : Int)).toNat = cs.length := by simp; omega
      rw [e]; simp
    refine SubP.listNeg rl3 (by decide) (by decide) (by simp; omega) hidx ?_
    repeat walk_at "m"
    refine callc (k := 5) (new_module4 (nm := some (cName ((a, ra) :: cs).length)) w3 d3 (kv5_C O B C M K) (kv5_M O B C M K)) (by decide) ?_
    intro v σ3 hN
    obtain ⟨z0, f0, m0, c0, xx0, yy0, rfl, N0⟩ := hN
    have nrw : rl ≠ w := ne_kd rl3 w3 rfl
    have rl4 := N0.ext _ _ (upd_at nrw rl3)
    obtain ⟨z', r', e1', hr', W3, fz', k3, n3, hrm'⟩ := CRows.push (cs := (a, ra) :: cs) (v := .ref z0) WS0 S.rows S.last ⟨z0, f0, m0, c0, xx0, yy0, rfl, N0.del rl3 nrw⟩
    cases e1'
    have hlz : (((a, ra) :: cs).map fun p => Value.ref p.1).reverse.length ≤ 100000 := by simp at hlen ⊢; omega
    repeat walk_at "m"
    refine ⟨vset_other g, (z0, r') :: (a, ra) :: cs, { wr' with last := wr'.last + 1 }, ⟨?_, by rw [del_upd]; exact hr', ?_, ?_⟩, by simp at hlen ⊢; omega, hv'⟩
    · have hx : ∀ b o, (dels σ' (rl :: ((a, ra) :: cs).map (·.2.methods))) b = some o → b ∉ rl :: ((z0, r') :: (a, ra) :: cs).map (·.2.methods) := fun b o hb hm => by
        obtain ⟨hb1, hb2⟩ := dels_at hb
        simp only [List.map_cons, List.mem_cons, not_or] at hb1 hm
        rcases hm with hm | hm | hm
        · exact hb1.1 hm
        · have := del_of (σ := σ') hb1.1 hb2
          rw [hm, hrm'] at this; cases this
        · exact hm.elim hb1.2.1 hb1.2.2
      have w4 := N0.ext _ _ (upd_same _ _ _)
      have nwl : w ≠ rl := nrw.symm
      exact S.W.keep (dels_of (hx _ _ S.W.at_) (upd_at nwl w4)) ⟨rfl, rfl, rfl⟩ fun b o hb hn => dels_of (hx _ _ hb) (upd_at (fun e => (dels_at hb).1 (by simp [e])) (N0.ext _ _ (upd_at hn (dels_at hb).2)))
    · have := S.last
      show wr'.last + 1 = _
      simp at this ⊢; omega
    · simp [upd_same]
  · rintro vm σ' ⟨g, cs, wr', S, hlen, hv'⟩
    rw [rangeL_length] at hlen
    exact hP w rl O B C M K wr' cs vm σ' S hlen hv' (by rw [hbase]; exact g)
end
-- P19
section
variable {x : XX} {n : Nat} {σ : AH}
def numOf (σ : AH) (a : Addr) : Int := match σ a with
  | some (.inst _ fs) => (match getF (Str.ofString "number") fs with | some (.int i _) => i | _ => 0)
  | _ => 0
def refs : List Value → List Addr
  | [] => []
  | .ref a :: r => a :: refs r
  | _ :: r => refs r
theorem refs_map (l : List Addr) : refs (l.map .ref) = l := by
  induction l with
  | nil => rfl
  | cons a l ih => simp [refs, ih]
def lsOf (f : Str) (σ : AH) (a : Addr) : List Addr := match σ a with
  | some (.inst _ fs) => (match getF f fs with
    | some (.ref l) => (match σ l with | some (.list xs) => refs xs | _ => [])
    | _ => [])
  | _ => []
theorem numOf_md {a : Addr} {r : MR} (h : Md σ a r) : r.number = numOf σ a := by
  unfold numOf; rw [show σ a = _ from h]; dsimp only; rw [MR.get_number]
theorem mx_md {a : Addr} {r : MR} {l : List Addr} (h : Md σ a r) (hl : σ r.mixed = some (.list (l.map .ref))) : lsOf (Str.ofString "mixed") σ a = l := by
  unfold lsOf; rw [show σ a = _ from h]; dsimp only; rw [MR.get_mixed]; dsimp only; rw [hl]; exact refs_map l
theorem ah_md {a : Addr} {r : MR} {l : List Addr} (h : Md σ a r) (hl : σ r.ahead = some (.list (l.map .ref))) : lsOf (Str.ofString "ahead") σ a = l := by
  unfold lsOf; rw [show σ a = _ from h]; dsimp only; rw [MR.get_ahead]; dsimp only; rw [hl]; exact refs_map l
abbrev mxOf := lsOf (Str.ofString "mixed")
abbrev ahOf := lsOf (Str.ofString "ahead")
theorem Tb.of {a : Addr} {r : MR} {l l' : List Addr} (h : Md σ a r) (hl : σ r.mixed = some (.list (l.map .ref))) (hl' : σ r.ahead = some (.list (l'.map .ref))) : Tb (numOf σ) (mxOf σ) (ahOf σ) σ a r :=
  ⟨h, numOf_md h, by show σ r.mixed = some (.list ((lsOf (Str.ofString "mixed") σ a).map .ref)); rw [mx_md h hl]; exact hl, by show σ r.ahead = some (.list ((lsOf (Str.ofString "ahead") σ a).map .ref)); rw [ah_md h hl']; exact hl'⟩
theorem Md.eq {a : Addr} {r q : MR} (h : Md σ a r) (h' : Md σ a q) : r = q := by
  have e := h.symm.trans h'
  injection e with e; injection e with _ e
  exact MR.inj e
/-- Object's own line -/
theorem go_O {O K : Addr} (h1 : mxOf σ O = [K]) (h2 : ahOf σ O = []) (h3 : mxOf σ K = []) (h4 : ahOf σ K = []) (hn : numOf σ O ≠ numOf σ K) : Go (numOf σ) (mxOf σ) (ahOf σ) (fun a => a = O ∨ a = K) 4 [] [] [(O, false)] [O, K] := by
  refine Go.new (stk := []) (.inl rfl) rfl (by simp) (by rw [h1, h2]; simp) ?_
  rw [h1, h2]
  refine Go.opened (stk := [(K, false)]) (by simp) ?_
  refine Go.new (stk := []) (.inr rfl) ?_ ?_ (by rw [h3, h4]; simp) ?_
  · rw [valueAt_stored, if_neg hn.symm]; rfl
  · exact Nat.le_trans (stored_len _ _ _) (by simp)
  rw [h3, h4]
  refine Go.opened (stk := []) (by simp) ?_
  exact Go.done
abbrev owO (O K : Addr) : Addr → List Addr := fun a => if a = O then [O, K] else [a]
/-- a plain link of a chain -/
theorem El.plain {O K a : Addr} {r : MR} {rest : List (Addr × MR)} {ver : Int} (h : Md σ a r) (hx : σ r.mixed = some (.list [])) (hy : σ r.ahead = some (.list [])) (hs : Stale σ ver r.kept) (hp : r.parent = hd? rest) (hn : a ≠ O) :
    El (numOf σ) (mxOf σ) (ahOf σ) (fun a => a = O ∨ a = K) (owO O K) σ ver a r rest := by
  have e1 : mxOf σ a = [] := mx_md (l := []) h hx
  have e2 : ahOf σ a = [] := ah_md (l := []) h hy
  exact ⟨Tb.of (l := []) (l' := []) h hx hy, hs, hp, ⟨e2, .inl ⟨e1, if_neg hn⟩⟩, fun h => absurd e1 h⟩
structure Base (σ : AH) (O B C M K : Addr) (ro rb rk : MR) : Prop where
  o : Md σ O ro
  b : Md σ B rb
  k : Md σ K rk
  ono : ro.number = 2
  bno : rb.number = 3
  kno : rk.number = 6
  op : ro.parent = some B
  bp : rb.parent = none
  ox : σ ro.mixed = some (.list [.ref K])
  oy : σ ro.ahead = some (.list [])
  bx : σ rb.mixed = some (.list [])
  bY : σ rb.ahead = some (.list [])
  kx : σ rk.mixed = some (.list [])
  ky : σ rk.ahead = some (.list [])
theorem Base.hT {O B C M K : Addr} {ro rb rk : MR} (h : Base σ O B C M K ro rb rk) : ∀ a, (a = O ∨ a = K) → ∃ r, Tb (numOf σ) (mxOf σ) (ahOf σ) σ a r := by
  rintro a (rfl | rfl)
  · exact ⟨ro, Tb.of (l := [K]) (l' := []) h.o h.ox h.oy⟩
  · exact ⟨rk, Tb.of (l := []) (l' := []) h.k h.kx h.ky⟩
theorem Base.elO {O B C M K : Addr} {ro rb rk : MR} {ver : Int} (h : Base σ O B C M K ro rb rk) (hs : Stale σ ver ro.kept) : El (numOf σ) (mxOf σ) (ahOf σ) (fun a => a = O ∨ a = K) (owO O K) σ ver O ro [(B, rb)] := by
  have e1 : mxOf σ O = [K] := mx_md (l := [K]) h.o h.ox
  have e2 : ahOf σ O = [] := ah_md (l := []) h.o h.oy
  have e3 : mxOf σ K = [] := mx_md (l := []) h.k h.kx
  have e4 : ahOf σ K = [] := ah_md (l := []) h.k h.ky
  have n1 := numOf_md h.o
  have n2 := numOf_md h.b
  have n3 := numOf_md h.k
  rw [h.ono] at n1
  rw [h.bno] at n2
  rw [h.kno] at n3
  have nbo : B ≠ O := fun e => by rw [e, ← n1] at n2; cases n2
  refine ⟨Tb.of (l := [K]) (l' := []) h.o h.ox h.oy, hs, h.op, ⟨e2, .inr ⟨by rw [e1]; simp, 4, ?_⟩⟩, fun _ c hc b hb => ?_⟩
  · rw [show owO O K O = [O, K] from if_pos rfl]
    exact go_O e1 e2 e3 e4 (by rw [← n1, ← n3]; decide)
  · rw [show owO O K O = [O, K] from if_pos rfl] at hc
    have hb : b ∈ [B] := by simpa [lines, owO, nbo] using hb
    simp only [List.mem_cons, List.not_mem_nil, or_false] at hb hc
    subst hb
    rcases hc with rfl | rfl
    · rw [← n1, ← n2]; decide
    · rw [← n3, ← n2]; decide
theorem Base.elB {O B C M K : Addr} {ro rb rk : MR} {ver : Int} (h : Base σ O B C M K ro rb rk) (hs : Stale σ ver rb.kept) : El (numOf σ) (mxOf σ) (ahOf σ) (fun a => a = O ∨ a = K) (owO O K) σ ver B rb [] :=
  El.plain h.b h.bx h.bY hs h.bp (fun e => by have := h.b; rw [e] at this; have := congrArg MR.number (Md.eq this h.o); rw [h.bno, h.ono] at this; cases this)
/-- line_of on a chain of plain links above Object and BasicObject -/
theorem line_of_chain {w O B C M K : Addr} {ro rb rk : MR} {wr : WR} {ps : List (Addr × MR)} (hw : σ w = some (.inst 870 wr.fs)) (h : Base σ O B C M K ro rb rk) (hso : Stale σ wr.version ro.kept) (hsb : Stale σ wr.version rb.kept)
    (hps : ∀ pre a r rest, ps = pre ++ (a, r) :: rest → Md σ a r ∧ σ r.mixed = some (.list []) ∧ σ r.ahead = some (.list []) ∧ Stale σ wr.version r.kept ∧ r.parent = hd? (rest ++ [(O, ro), (B, rb)]) ∧ a ≠ O ∧ a ≠ B) (hnd : (ps.map (·.1)).Nodup) (hz : ps.length ≤ 1000) :
    WCode (gx x) 5 410 [.ref w, oA (hd? (ps ++ [(O, ro), (B, rb)]))] σ fun v σ' => ∃ D, v = .ref D ∧ σ D = none ∧ σ' D = some (.list ((ps.map (·.1) ++ [O, K, B]).map .ref)) ∧ Lo ((ps ++ [(O, ro), (B, rb)]).map (·.1)) wr.version σ σ' ∧
      ∀ a r rest, ps ++ [(O, ro), (B, rb)] = (a, r) :: rest → ∃ t, Md σ' a { r with kept := some t } ∧ σ' t = some (.tup [.int wr.version 0, .ref D]) := by
  have nbo : B ≠ O := fun e => by have := h.b; rw [e] at this; have := congrArg MR.number (Md.eq this h.o); rw [h.bno, h.ono] at this; cases this
  have hmem : ∀ p ∈ ps, Md σ p.1 p.2 ∧ p.1 ≠ O ∧ p.1 ≠ B := fun p hp => by
    obtain ⟨s, t, e⟩ := List.append_of_mem hp
    obtain ⟨q1, _, _, _, _, q2, q3⟩ := hps s p.1 p.2 t e
    exact ⟨q1, q2, q3⟩
  have hl : lines (owO O K) (ps ++ [(O, ro), (B, rb)]) = ps.map (·.1) ++ [O, K, B] := by
    have : ∀ l : List (Addr × MR), (∀ p ∈ l, p.1 ≠ O) → lines (owO O K) l = l.map (·.1) := fun l hl => by
      induction l with
      | nil => rfl
      | cons p l ih =>
        have := hl p (by simp)
        simp only [lines, List.flatMap_cons, List.map_cons] at ih ⊢
        rw [ih fun q hq => hl q (by simp [hq]), show owO O K p.1 = [p.1] from if_neg this]; rfl
    simp only [lines, List.flatMap_append] at this ⊢
    rw [this ps fun p hp => (hmem p hp).2.1]
    simp [owO, nbo]
  have := line_of_stale (x := x) (nu := numOf σ) (mx := mxOf σ) (ah := ahOf σ) (T := fun a => a = O ∨ a = K) (ow := owO O K) (ch := ps ++ [(O, ro), (B, rb)]) hw h.hT ?_ ?_ ?_ ?_ ?_
  · rw [hl] at this; exact this
  · intro pre a r rest e
    rcases List.append_eq_append_iff.mp e with ⟨s, e1, e2⟩ | ⟨s, e1, e2⟩
    · subst e1
      match s, e2 with
      | [], e2 => cases e2; exact h.elO hso
      | [_], e2 => cases e2; exact h.elB hsb
      | _ :: _ :: s, e2 => simp at e2
    · match s, e2 with
      | [], e2 => cases e2; exact h.elO hso
      | (b, q) :: s, e2 =>
        cases e2
        obtain ⟨q1, q2, q3, q4, q5, q6, _⟩ := hps pre a r s e1
        exact El.plain q1 q2 q3 q4 q5 q6
  · rw [hl]
    intro a ha
    simp only [List.mem_append, List.mem_cons, List.not_mem_nil, or_false, List.mem_map] at ha
    rcases ha with ⟨p, hp, rfl⟩ | rfl | rfl | rfl
    · exact ⟨p.2, (hmem p hp).1, numOf_md (hmem p hp).1⟩
    · exact ⟨ro, h.o, numOf_md h.o⟩
    · exact ⟨rk, h.k, numOf_md h.k⟩
    · exact ⟨rb, h.b, numOf_md h.b⟩
  · rw [List.map_append]
    refine List.nodup_append.mpr ⟨hnd, by simp [nbo.symm], fun a ha b hb e => ?_⟩
    obtain ⟨p, hp, rfl⟩ := List.mem_map.mp ha
    simp only [List.map_cons, List.map_nil, List.mem_cons, List.not_mem_nil, or_false] at hb
    rcases hb with rfl | rfl
    · exact (hmem p hp).2.1 e
    · exact (hmem p hp).2.2 e
  · simp; omega
  · rw [hl]; simp; omega
end
-- P20
section
variable {x : XX} {n : Nat} {σ : AH}
theorem split_at {α} {l : List α} {i : Nat} (h : i < l.length) : ∃ pre p suf, l = pre ++ p :: suf ∧ suf.length = i := by
  refine ⟨l.take (l.length - 1 - i), l[l.length - 1 - i]'(by omega), l.drop (l.length - 1 - i + 1), ?_, by simp; omega⟩
  rw [← List.drop_eq_getElem_cons, List.take_append_drop]
theorem rev_idx {pre suf : List (Addr × MR)} {p : Addr × MR} {k : Int} (h : k = suf.length) : (((pre ++ p :: suf).map fun p => Value.ref p.1).reverse)[k.toNat]? = some (.ref p.1) := by
  subst h
  simp
theorem ne_ew {a w : Addr} {fs gs} (ha : σ a = some (.inst 256 fs)) (hw : σ w = some (.inst 870 gs)) : a ≠ w := by
  intro e; rw [e, hw] at ha; injection ha with ha; injection ha with ha; simp at ha
theorem CRows.none {C O : Addr} {kv : Nat → List (Str × Value)} {nm : Str} {L : List Addr} {o : Option Addr} (hL : Fnd σ nm L o) : ∀ {cs : List (Addr × MR)}, CRows σ C O kv cs → (∀ j, j < cs.length → valueAt (kv j) nm = Option.none) → Fnd σ nm (cs.map (·.1) ++ L) o
  | [], _, _ => hL
  | (a, r) :: rest, h, hn => .skip ⟨r, _, h.1.at_, h.1.m, hn _ (by simp)⟩ (CRows.none hL h.2.2 fun j hj => hn j (by simp; omega))
theorem CRows.hit {C O : Addr} {kv : Nat → List (Str × Value)} {nm : Str} {L : List Addr} {e : Addr} {er : ER} {a : Addr} {r : MR} {suf : List (Addr × MR)} (he : σ e = some (.inst 256 er.fs)) (hs : er.sort = Str.ofString "reader") (hv : valueAt (kv suf.length) nm = some (.ref e)) :
    ∀ {pre : List (Addr × MR)}, CRows σ C O kv (pre ++ (a, r) :: suf) → (∀ j, suf.length < j → valueAt (kv j) nm = Option.none) → Fnd σ nm ((pre ++ (a, r) :: suf).map (·.1) ++ L) (some e)
  | [], h, _ => .hit ⟨r, _, h.1.at_, h.1.m, hv⟩ he hs
  | (b, q) :: pre, h, hn => .skip ⟨q, _, h.1.at_, h.1.m, hn _ (by simp; omega)⟩ (CRows.hit he hs hv h.2.2 hn)
theorem Bi.mth {mk a ow : Addr} {num : Int} {nm s : Str} {isC : Bool} {pa : Option Addr} {ms : List Addr} (h : Bi σ mk a num ow nm isC pa ms) : Mth σ a s Option.none := by
  obtain ⟨f, m, c, xx, yy, h1, h2, _⟩ := h.ex
  exact ⟨_, _, h1, h2, rfl⟩
theorem W5.fnd {w O B C M K : Addr} {wr : WR} {s : Str} (h : W5 σ w wr O B C M K) : Fnd σ s [O, K, B] Option.none := .skip h.bO.mth (.skip h.bK.mth (.skip h.bB.mth .nil))
/-- after the two methods were put -/
structure CPut (σ : AH) (w rl O B C M K e1 e2 a0 ag : Addr) (wr : WR) (at_ : Nat) (cs : List (Addr × MR)) : Prop where
  W : W5 σ w wr O B C M K
  rows : ∃ kv, CRows σ C O kv cs
  rl : σ rl = some (.list (cs.map fun p => Value.ref p.1).reverse)
  ver : wr.version = 2
  last : wr.last = 6 + cs.length
  c0 : ∃ pre r0, cs = pre ++ [(a0, r0)]
  cg : ∃ pre rg suf, cs = pre ++ (ag, rg) :: suf ∧ suf.length = at_
  h1 : ∃ t, σ e1 = some (.inst 256 (ER.fs ⟨Str.ofString "f", a0, Str.ofString "reader", Str.ofString "@top", Str.ofString "public", t⟩))
  h2 : ∃ t, σ e2 = some (.inst 256 (ER.fs ⟨Str.ofString "g", ag, Str.ofString "reader", Str.ofString "@down", Str.ofString "public", t⟩))
  ff : Fnd σ (Str.ofString "f") (cs.map (·.1) ++ [O, K, B]) (some e1)
  fg : Fnd σ (Str.ofString "g") (cs.map (·.1) ++ [O, K, B]) (some e2)
  fh : Fnd σ (Str.ofString "h") (cs.map (·.1) ++ [O, K, B]) Option.none
theorem classes_puts {many at_ : Nat} {P : Flow → VM → AH → Prop} {w rl O B C M K : Addr} {wr : WR} {cs : List (Addr × MR)} {vm : VM} (S : CSt σ w rl O B C M K wr (fun _ => []) cs) (hlen : cs.length = many) (hat : at_ < many) (hv : wr.version = 0) (hm2 : many ≤ 550)
    (u1 : vm (Str.ofString "world") = some (.ref w)) (u2 : vm (Str.ofString "rows") = some (.ref rl)) (u3 : vm (Str.ofString "at") = some (.int at_ 0)) (u4 : vm (Str.ofString "_law_put") = some (.ref 881))
    (hP : ∀ e1 e2 a0 ag wr' σ', CPut σ' w rl O B C M K e1 e2 a0 ag wr' at_ cs → WS (gx x) 16 (sf x 898) ((bf x 898).drop 5) vm σ' P) : WS (gx x) 16 (sf x 898) ((bf x 898).drop 3) vm σ P := by
  have w0 := (dels_at S.W.at_).2
  have R0 : CRows σ C O (fun _ => []) cs := S.rows.keep (fun a r h => (del_at h).2) (fun b o h _ => (del_at h).2)
  have rl0 := S.rl
  obtain ⟨pre0, ⟨a0, r0⟩, suf0, hc0, hs0⟩ := split_at (l := cs) (i := 0) (by omega)
  obtain rfl : suf0 = [] := List.eq_nil_of_length_eq_zero hs0
  obtain ⟨preg, ⟨ag, rg⟩, sufg, hcg, hsg⟩ := split_at (l := cs) (i := at_) (by omega)
  have c0 := CRows.at_ (hc0 ▸ R0)
  change WS _ _ _ (_ :: _) _ _ _
  repeat walk_at "m"
  refine SubP.list rl0 (by decide) (by decide) (by rw [hc0]; exact rev_idx rfl) ?_
  repeat walk_at "m"
  refine callc (k := 4) (law_put_spec c0.at_ (.inl c0.att) w0 c0.m (by simp)) (by decide) ?_
  intro _ σ1 p1
  obtain ⟨e1, t1, R1, he1, w1, k1⟩ := CRows.put (kv := fun _ => []) (hc0 ▸ R0) w0 p1
  rw [← hc0] at R1
  obtain ⟨kv1, R1, q0, qn⟩ : ∃ kv1 : Nat → List (Str × Value), CRows σ1 C O kv1 cs ∧ kv1 0 = stored [] (Str.ofString "f") (.ref e1) ∧ ∀ j, j ≠ 0 → kv1 j = [] := ⟨_, R1, if_pos rfl, fun j hj => if_neg hj⟩
  have rl1 := k1 _ _ rl0 (ne_kd rl0 w0 rfl) (ne_kd rl0 c0.m rfl)
  have c1 := CRows.at_ (hcg ▸ R1)
  have hkl : ∀ j, (kv1 j).length ≤ 100000 := fun j => by
    by_cases h : j = 0
    · rw [h, q0]; exact Nat.le_trans (stored_len _ _ _) (by simp)
    · rw [qn _ h]; simp
  repeat walk_at "m"
  refine SubP.list rl1 (by omega) (by omega) (by rw [hcg]; exact rev_idx (by rw [hsg])) ?_
  repeat walk_at "m"
  refine callc (k := 4) (law_put_spec c1.at_ (.inl c1.att) w1 c1.m (hkl _)) (by decide) ?_
  intro _ σ2 p2
  obtain ⟨e2, t2, R2, he2, w2, k2⟩ := CRows.put (hcg ▸ R1) w1 p2
  rw [← hcg] at R2
  obtain ⟨kv2, R2, p0, pn⟩ : ∃ kv2 : Nat → List (Str × Value), CRows σ2 C O kv2 cs ∧ kv2 at_ = stored (kv1 at_) (Str.ofString "g") (.ref e2) ∧ ∀ j, j ≠ at_ → kv2 j = kv1 j := ⟨_, R2, by rw [hsg]; exact if_pos rfl, fun j hj => if_neg (by rw [hsg]; exact hj)⟩
  have hnf : ∀ s, s ≠ Str.ofString "f" → ∀ j, valueAt (kv1 j) s = Option.none := fun s hs j => by
    by_cases h : j = 0
    · rw [h, q0, valueAt_stored, if_neg hs]; rfl
    · rw [qn _ h]; rfl
  have hng : ∀ s, s ≠ Str.ofString "g" → ∀ j, valueAt (kv2 j) s = valueAt (kv1 j) s := fun s hs j => by
    by_cases h : j = at_
    · rw [h, p0, valueAt_stored, if_neg hs]
    · rw [pn _ h]
  have rl2 := k2 _ _ rl1 (ne_kd rl1 w1 rfl) (ne_kd rl1 c1.m rfl)
  have he1' := k2 _ _ he1 (ne_ew he1 w1) (ne_kd c1.m he1 rfl).symm
  have hin : ∀ p ∈ cs, p.2.methods ∈ rl :: cs.map (·.2.methods) := fun p hp => List.mem_cons_of_mem _ (List.mem_map.mpr ⟨p, hp, rfl⟩)
  have W2 : W5 σ2 w _ O B C M K := S.W.keep w2 ⟨rfl, rfl, rfl⟩ fun b o hb hn => by
    obtain ⟨h1, h2⟩ := dels_at hb
    exact k2 _ _ (k1 _ _ h2 hn (fun e => h1 (by rw [e]; exact hin (a0, r0) (by rw [hc0]; simp)))) hn (fun e => h1 (by rw [e]; exact hin (ag, rg) (by rw [hcg]; simp)))
  refine hP e1 e2 a0 ag _ σ2 ⟨W2, ⟨_, R2⟩, rl2, by show wr.version + 1 + 1 = 2; omega, S.last, ⟨pre0, r0, hc0⟩, ⟨preg, rg, sufg, hcg, hsg⟩, ⟨t1, he1'⟩, ⟨t2, he2⟩, ?_, ?_, ?_⟩
  · rw [hc0] at R2 ⊢
    refine CRows.hit he1' rfl ?_ R2 ?_
    · show valueAt (kv2 0) _ = _
      rw [hng _ (by decide), q0, valueAt_stored, if_pos rfl]
    · intro j hj
      rw [hng _ (by decide), qn _ (by simp at hj; omega)]; rfl
  · rw [hcg] at R2 ⊢
    refine CRows.hit he2 rfl ?_ R2 ?_
    · rw [hsg, p0, valueAt_stored, if_pos rfl]
    · intro j hj
      rw [pn _ (by omega), hnf _ (by decide)]
  · refine CRows.none W2.fnd R2 ?_
    intro j _
    rw [hng _ (by decide), hnf _ (by decide)]
end
-- P21
section
variable {x : XX} {n : Nat} {σ : AH}
theorem Lo.ext {S : List Addr} {ver : Int} {σ σ' σ'' : AH} (h : Lo S ver σ σ') (e : Ext σ' σ'') : Lo S ver σ σ'' :=
  ⟨h.km.trans (Km.of_ext e), fun a r ha hm => e _ _ (h.out a r ha hm), fun a r ha hm => let ⟨t, l, h1, h2⟩ := h.inn a r ha hm; ⟨t, l, e _ _ h1, e _ _ h2⟩⟩
theorem Mth.km {σ σ' : AH} {a : Addr} {nm : Str} {o : Option Value} (h : Mth σ a nm o) (k : Km σ σ') : Mth σ' a nm o := let ⟨r, kv, h1, h2, h3⟩ := h.ex; let ⟨q, hq⟩ := k.md a r h1; ⟨_, kv, hq, k.sdict h2, h3⟩
theorem Fnd.km {σ σ' : AH} {nm : Str} {l : List Addr} {o : Option Addr} (h : Fnd σ nm l o) (k : Km σ σ') : Fnd σ' nm l o := by
  induction h with
  | nil => exact .nil
  | skip h _ ih => exact .skip (h.km k) ih
  | hit h1 h2 h3 => exact .hit (h1.km k) (k.entry h2) h3
structure Top2 (C K : Addr) (ro rb rk : MR) : Prop where
  k1 : ro.kept = none
  k2 : rb.kept = none
  o1 : ro.own = none
  o2 : rb.own = none
  c1 : ro.isClass = true
  c2 : rb.isClass = true
  t1 : ro.attached = none
  t2 : rb.attached = none
  n1 : ro.native = some sO
  n2 : rb.native = some sB
  w2 : rb.owner = some C
theorem W5.base {w O B C M K : Addr} {wr : WR} (W : W5 σ w wr O B C M K) : ∃ ro rb rk, Base σ O B C M K ro rb rk ∧ Top2 C K ro rb rk := by
  obtain ⟨f, m, c, xx, yy, h1, h2, h3, h4, _⟩ := W.bO.ex
  obtain ⟨f', m', c', xx', yy', h1', h2', h3', h4', _⟩ := W.bB.ex
  obtain ⟨f'', m'', c'', xx'', yy'', h1'', h2'', h3'', h4'', _⟩ := W.bK.ex
  exact ⟨_, _, _, ⟨h1, h1', h1'', rfl, rfl, rfl, rfl, rfl, h3, h4, h3', h4', h3'', h4''⟩, ⟨rfl, rfl, rfl, rfl, rfl, rfl, rfl, rfl, rfl, rfl, rfl⟩⟩
theorem ne_num {a b : Addr} {r q : MR} (h : Md σ a r) (h' : Md σ b q) (hn : r.number ≠ q.number) : a ≠ b := fun e => by
  rw [e] at h; exact hn (congrArg MR.number (Md.eq h h'))
/-- line_of for the row of classes -/
theorem classes_line {w O B C M K : Addr} {wr : WR} {kv : Nat → List (Str × Value)} {cs : List (Addr × MR)} {ro rb rk : MR} (hw : σ w = some (.inst 870 wr.fs)) (R : CRows σ C O kv cs) (hb : Base σ O B C M K ro rb rk) (ht : Top2 C K ro rb rk) (hz : cs.length ≤ 1000) :
    WCode (gx x) 5 410 [.ref w, oA (hd? (cs ++ [(O, ro), (B, rb)]))] σ fun v σ' => ∃ D, v = .ref D ∧ σ D = none ∧ σ' D = some (.list ((cs.map (·.1) ++ [O, K, B]).map .ref)) ∧ Lo ((cs ++ [(O, ro), (B, rb)]).map (·.1)) wr.version σ σ' ∧
      ∀ a r rest, cs ++ [(O, ro), (B, rb)] = (a, r) :: rest → ∃ t, Md σ' a { r with kept := some t } ∧ σ' t = some (.tup [.int wr.version 0, .ref D]) := by
  refine line_of_chain hw hb (by rw [ht.k1]; trivial) (by rw [ht.k2]; trivial) ?_ R.nodup hz
  intro pre a r rest e
  have c := CRows.at_ (e ▸ R)
  refine ⟨c.at_, c.xs, c.ys, by rw [c.kept]; trivial, ?_, ne_num c.at_ hb.o (by rw [c.num, hb.ono]; omega), ne_num c.at_ hb.b (by rw [c.num, hb.bno]; omega)⟩
  rw [c.pa]
  cases rest <;> rfl
theorem classes_found {many at_ : Nat} {P : Flow → VM → AH → Prop} {w rl O B C M K e1 e2 a0 ag : Addr} {wr : WR} {cs : List (Addr × MR)} {vm : VM} {ro rb rk : MR} (S : CPut σ w rl O B C M K e1 e2 a0 ag wr at_ cs) (hb : Base σ O B C M K ro rb rk) (ht : Top2 C K ro rb rk) (hz : cs.length ≤ 550)
    (u1 : vm (Str.ofString "world") = some (.ref w)) (u2 : vm (Str.ofString "rows") = some (.ref rl))
    (hP : ∀ fl t1 t2 σ', Lo ((cs ++ [(O, ro), (B, rb)]).map (·.1)) 2 σ σ' → (∃ D ah rh t, hd? cs = some ah ∧ Md σ' ah rh ∧ rh.kept = some t ∧ σ' t = some (.tup [.int 2 0, .ref D]) ∧ σ' D = some (.list ((cs.map (·.1) ++ [O, K, B]).map .ref))) →
      σ' fl = some (.list [.ref t1, .ref t2, .none]) → σ' t1 = some (.tup [.str (Str.ofString "@top") 0, .str (cName 0) 0]) → σ' t2 = some (.tup [.str (Str.ofString "@down") 0, .str (cName at_) 0]) →
      WS (gx x) 16 (sf x 898) ((bf x 898).drop 6) (vm.set (Str.ofString "found") (.ref fl)) σ' P) : WS (gx x) 16 (sf x 898) ((bf x 898).drop 5) vm σ P := by
  obtain ⟨kv, R⟩ := S.rows
  obtain ⟨pre0, r0, hc0⟩ := S.c0
  obtain ⟨preg, rg, sufg, hcg, hsg⟩ := S.cg
  obtain ⟨q1, he1⟩ := S.h1
  obtain ⟨q2, he2⟩ := S.h2
  have w0 := S.W.at_
  have hlet : lettersL (Str.ofString "fgh") = [.str (Str.ofString "f") 0, .str (Str.ofString "g") 0, .str (Str.ofString "h") 0] := by decide +kernel
  cases hcs : cs with
  | nil => rw [hcs] at hc0; simp at hc0
  | cons p0 cs' =>
  obtain ⟨ah, rh⟩ := p0
  have hidx : ((cs.map fun p => Value.ref p.1).reverse)[((-1 : Int) + (((cs.map fun p => Value.ref p.1).reverse).length : Int)).toNat]? = some (.ref ah) := by
    rw [hcs]
    have e : ((-1 : Int) + (((((ah, rh) :: cs').map fun p => Value.ref p.1).reverse).length : Int)).toNat = cs'.length := by simp; omega
    rw [e]; simp
  have hlast : -((((cs.map fun p => Value.ref p.1).reverse).length : Nat) : Int) ≤ -1 := by rw [hcs]; simp; omega
  change WS _ _ _ (_ :: _) _ _ _
  walk_at "m"
  refine wst_assignComp' [Str.ofString "world", Str.ofString "rows"] ⟨by kernel_rfl⟩ (by intro y hy; simp only [List.mem_cons, List.not_mem_nil, or_false] at hy; rcases hy with rfl | rfl <;> simp [u1, u2]) (by kernel_rfl) (WIt.letters (by decide +kernel) ?_) (by walk_at "sw") (by walk_at "hs2")
  have hv2 : wr.version = 2 := S.ver
  have hh : hd? (cs ++ [(O, ro), (B, rb)]) = some ah := by rw [hcs]; rfl
  have hline := classes_line (x := x) w0 R hb ht (by omega)
  rw [hh, show oA (some ah) = .ref ah from rfl, hv2] at hline
  have h0 := CRows.at_ (pre := pre0) (hc0 ▸ R)
  have hg := CRows.at_ (pre := preg) (hcg ▸ R)
  have hatl : at_ < 600 := by
    have : cs.length = preg.length + (sufg.length + 1) := by rw [hcg]; simp
    omega
  have ch : ∀ (m : Addr) (r : MR), (m, r) ∈ cs → m ∈ (cs ++ [(O, ro), (B, rb)]).map (·.1) := fun m r h => List.mem_map.mpr ⟨(m, r), by simp [h], rfl⟩
  refine ⟨by rw [hlet]; simp, fun k ys σ' => (k = 0 ∧ ys = [] ∧ σ' = σ) ∨ (Lo ((cs ++ [(O, ro), (B, rb)]).map (·.1)) 2 σ σ' ∧ (∃ D rh t, Md σ' ah rh ∧ rh.kept = some t ∧ σ' t = some (.tup [.int 2 0, .ref D]) ∧ σ' D = some (.list ((cs.map (·.1) ++ [O, K, B]).map .ref))) ∧
     ∃ t1, σ' t1 = some (.tup [.str (Str.ofString "@top") 0, .str (cName 0) 0]) ∧ ((k = 1 ∧ ys = [.ref t1]) ∨ ∃ t2, σ' t2 = some (.tup [.str (Str.ofString "@down") 0, .str (cName at_) 0]) ∧ ((k = 2 ∧ ys = [.ref t1, .ref t2]) ∨ (k = 3 ∧ ys = [.ref t1, .ref t2, .none])))), .inl ⟨rfl, rfl, rfl⟩, fun _ _ _ _ => trivial, ?_, ?_⟩
  · rintro k y ys σ' hy (⟨rfl, rfl, rfl⟩ | ⟨lo, ⟨D, rh', t, hk1, hk2, hk3, hk4⟩, t1, ht1, (⟨rfl, rfl⟩ | ⟨t2, ht2, (⟨rfl, rfl⟩ | ⟨rfl, rfl⟩)⟩)⟩)
    · rw [hlet] at hy
      obtain rfl : y = .str (Str.ofString "f") 0 := by simpa using hy.symm
      repeat walk_at "m"
      refine WE.neg (i := 1) (t := 0) ?_
      repeat walk_at "m"
      refine SubP.listNeg S.rl (by decide) (by decide) hlast hidx ?_
      repeat walk_at "m"
      refine callc (k := 6) (find_spec hline (P := fun v σ'' => v = .ref e1 ∧ Lo ((cs ++ [(O, ro), (B, rb)]).map (·.1)) 2 σ' σ'' ∧ ∃ D rh t, Md σ'' ah rh ∧ rh.kept = some t ∧ σ'' t = some (.tup [.int 2 0, .ref D]) ∧ σ'' D = some (.list ((cs.map (·.1) ++ [O, K, B]).map .ref))) ?_) (by decide) ?_
      · rintro _ σ1 ⟨D, rfl, fD, hD, lo, hkp⟩
        obtain ⟨t, k1, k2⟩ := hkp ah rh (cs' ++ [(O, ro), (B, rb)]) (by rw [hcs]; rfl)
        exact ⟨D, rfl, (first_entry_spec (lo.km.world w0) (lo.km.sdict S.W.nat) (lo.km.sdict S.W.pre) hD (S.ff.km lo.km)).mono fun v σ'' ⟨e, ex⟩ => ⟨e, lo.ext ex, D, _, t, ex _ _ k1, rfl, ex _ _ k2, ex _ _ hD⟩⟩
      rintro _ σ3 ⟨rfl, lo, D, rh', t, hk1, hk2, hk3, hk4⟩
      obtain ⟨tt, ll, hm0, _⟩ := lo.inn a0 r0 (ch a0 r0 (by rw [hc0]; simp)) h0.at_
      repeat walk_at "m"
      refine callc (k := 2) (law_plain_some (lo.km.entry he1) rfl (full_name_plain hm0 h0.att h0.nm h0.out (cName_len (by decide)))) (by decide) ?_
      rintro _ σ4 ⟨t1, rfl, f1, e4, ht1⟩
      refine .inr ⟨lo.ext e4, ⟨D, rh', t, e4 _ _ hk1, hk2, e4 _ _ hk3, e4 _ _ hk4⟩, t1, ht1, .inl ⟨rfl, rfl⟩⟩
    · rw [hlet] at hy
      obtain rfl : y = .str (Str.ofString "g") 0 := by simpa using hy.symm
      repeat walk_at "m"
      refine WE.neg (i := 1) (t := 0) ?_
      repeat walk_at "m"
      refine SubP.listNeg (lo.km.list S.rl) (by decide) (by decide) hlast hidx ?_
      repeat walk_at "m"
      have hl2 := line_of_kept (x := x) (wr := wr) (lo.km.world w0) hk1 hk2 (by rw [hv2]; exact hk3)
      refine callc (k := 6) (find_spec (hl2.le (by decide)) (P := fun v σ'' => v = .ref e2 ∧ Ext σ' σ'') ?_) (by decide) ?_
      · rintro _ σ1 ⟨rfl, e1'⟩
        exact ⟨D, rfl, (first_entry_spec (e1' _ _ (lo.km.world w0)) (e1' _ _ (lo.km.sdict S.W.nat)) (e1' _ _ (lo.km.sdict S.W.pre)) (e1' _ _ hk4) ((S.fg.km lo.km).ext e1')).mono fun v σ'' ⟨e, ex⟩ => ⟨e, e1'.trans ex⟩⟩
      rintro _ σ3 ⟨rfl, e3⟩
      obtain ⟨tt, ll, hm0, _⟩ := lo.inn ag rg (ch ag rg (by rw [hcg]; simp)) hg.at_
      repeat walk_at "m"
      refine callc (k := 2) (law_plain_some (e3 _ _ (lo.km.entry he2)) rfl (full_name_plain (e3 _ _ hm0) hg.att hg.nm hg.out (cName_len (by rw [hsg]; exact hatl)))) (by decide) ?_
      rintro _ σ4 ⟨t2, rfl, f2, e4, ht2⟩
      have e5 := e3.trans e4
      rw [hsg] at ht2
      exact .inr ⟨lo.ext e5, ⟨D, rh', t, e5 _ _ hk1, hk2, e5 _ _ hk3, e5 _ _ hk4⟩, t1, e5 _ _ ht1, .inr ⟨t2, ht2, .inl ⟨rfl, rfl⟩⟩⟩
    · rw [hlet] at hy
      obtain rfl : y = .str (Str.ofString "h") 0 := by simpa using hy.symm
      repeat walk_at "m"
      refine WE.neg (i := 1) (t := 0) ?_
      repeat walk_at "m"
      refine SubP.listNeg (lo.km.list S.rl) (by decide) (by decide) hlast hidx ?_
      repeat walk_at "m"
      have hl2 := line_of_kept (x := x) (wr := wr) (lo.km.world w0) hk1 hk2 (by rw [hv2]; exact hk3)
      refine callc (k := 6) (find_spec (hl2.le (by decide)) (P := fun v σ'' => v = .none ∧ Ext σ' σ'') ?_) (by decide) ?_
      · rintro _ σ1 ⟨rfl, e1'⟩
        exact ⟨D, rfl, (first_entry_spec (e1' _ _ (lo.km.world w0)) (e1' _ _ (lo.km.sdict S.W.nat)) (e1' _ _ (lo.km.sdict S.W.pre)) (e1' _ _ hk4) ((S.fh.km lo.km).ext e1')).mono fun v σ'' ⟨e, ex⟩ => ⟨e, e1'.trans ex⟩⟩
      rintro _ σ3 ⟨rfl, e3⟩
      repeat walk_at "m"
      refine callc (k := 2) law_plain_none (by decide) ?_
      rintro _ _ ⟨rfl, rfl⟩
      exact .inr ⟨lo.ext e3, ⟨D, rh', t, e3 _ _ hk1, hk2, e3 _ _ hk3, e3 _ _ hk4⟩, t1, e3 _ _ ht1, .inr ⟨t2, e3 _ _ ht2, .inr ⟨rfl, rfl⟩⟩⟩
    · rw [hlet] at hy
      simp at hy
  · rintro ys σ' fl hJ hfl
    rw [hlet] at hJ
    rcases hJ with ⟨h, _⟩ | ⟨lo, ⟨D, rh', t, hk1, hk2, hk3, hk4⟩, t1, ht1, (⟨h, _⟩ | ⟨t2, ht2, (⟨h, _⟩ | ⟨_, rfl⟩)⟩)⟩
    · simp at h
    · simp at h
    · simp at h
    · have e : Ext σ' (upd σ' fl (.list [.ref t1, .ref t2, .none])) := Ext.upd (Ext.refl _) hfl
      exact hP fl t1 t2 _ (lo.ext e) ⟨D, ah, rh', t, by rw [hcs]; rfl, e _ _ hk1, hk2, e _ _ hk3, e _ _ hk4⟩ (upd_same _ _ _) (e _ _ ht1) (e _ _ ht2)
end
-- P22
section
variable {x : XX} {n : Nat} {σ : AH}
theorem head_idx {cs' : List (Addr × MR)} {ah : Addr} {rh : MR} : ((((ah, rh) :: cs').map fun p => Value.ref p.1).reverse)[((-1 : Int) + (((((ah, rh) :: cs').map fun p => Value.ref p.1).reverse).length : Int)).toNat]? = some (.ref ah) ∧ -(((((ah, rh) :: cs').map fun p => Value.ref p.1).reverse.length : Nat) : Int) ≤ -1 := by
  have e : ((-1 : Int) + (((((ah, rh) :: cs').map fun p => Value.ref p.1).reverse).length : Int)).toNat = cs'.length := by simp; omega
  exact ⟨by rw [e]; simp, by simp; omega⟩
theorem log_small {i : Nat} (h : i < 1900) : ((i : Nat) : Int).natAbs.log2 < 1920 := Nat.lt_of_le_of_lt (Nat.log2_le_self _) (by omega)
theorem name_ok : ∀ i : Fin 600, PyData.strOk (cName i) = true := by decide +kernel
theorem cName_ok {i : Nat} (h : i < 600) : PyData.strOk (cName i) = true := name_ok ⟨i, h⟩
theorem classes_if {many at_ : Nat} {P : Flow → VM → AH → Prop} {w rl D ah t t1 t2 fl : Addr} {rh rh' : MR} {L : List Addr} {wr : WR} {cs' : List (Addr × MR)} {vm : VM} (hw : σ w = some (.inst 870 wr.fs)) (hrl : σ rl = some (.list (((ah, rh) :: cs').map fun p => Value.ref p.1).reverse))
    (hk1 : Md σ ah rh') (hk2 : rh'.kept = some t) (hk3 : σ t = some (.tup [.int wr.version 0, .ref D])) (hk4 : σ D = some (.list (L.map .ref))) (hL : L.length = many + 3) (hm : many ≤ 550) (hat : at_ < 600)
    (f1 : σ fl = some (.list [.ref t1, .ref t2, .none])) (f2 : σ t1 = some (.tup [.str (Str.ofString "@top") 0, .str (cName 0) 0])) (f3 : σ t2 = some (.tup [.str (Str.ofString "@down") 0, .str (cName at_) 0]))
    (u1 : vm (Str.ofString "world") = some (.ref w)) (u2 : vm (Str.ofString "rows") = some (.ref rl)) (u3 : vm (Str.ofString "at") = some (.int at_ 0)) (u4 : vm (Str.ofString "many") = some (.int many 0)) (u5 : vm (Str.ofString "found") = some (.ref fl)) (u6 : vm (Str.ofString "str") = some (.type "str")) (u7 : vm (Str.ofString "len") = some (.builtin "len")) (u8 : vm (Str.ofString "line_of") = some (.ref 410))
    (hP : ∀ σ', Ext σ σ' → WS (gx x) 16 (sf x 898) ((bf x 898).drop 7) vm σ' P) : WS (gx x) 16 (sf x 898) ((bf x 898).drop 6) vm σ P := by
  change WS _ _ _ (_ :: _) _ _ _
  repeat walk_at "m"
  intro g1 hg1
  repeat walk_at "m"
  refine WCall.strInt (log_small (by omega)) ?_
  repeat walk_at "m"
  refine Bin.addStr (by have := cName_len (i := at_) hat; rw [cName, str_len_app] at this; omega) ?_
  rw [show Str.ofString "C" ++ Str.ofString (toString (at_ : Int)) = cName at_ from rfl]
  repeat walk_at "m"
  intro g2 hg2
  repeat walk_at "m"
  intro g3 hg3
  rw [cName0] at hg2 hg3
  have e : Ext σ (upd (upd (upd σ g1 (.tup [.str (Str.ofString "@top") 0, .str (cName 0) 0])) g2 (.tup [.str (Str.ofString "@down") 0, .str (cName at_) 0])) g3 (.list [.ref g1, .ref g2, .none])) := by
    have hg2' : (upd σ g1 (.tup [.str (Str.ofString "@top") 0, .str (cName 0) 0])) g2 = none := hg2
    exact Ext.upd (Ext.upd (Ext.upd (Ext.refl _) hg1) hg2') hg3
  rw [cName0]
  have hlay : (PyData.list [.tuple [.str (Str.ofString "@top"), .str (cName 0)], .tuple [.str (Str.ofString "@down"), .str (cName at_)], .none]).canLay0 = true := by
    have h1 : PyData.strOk (Str.ofString "@top") = true := by decide +kernel
    have h2 : PyData.strOk (Str.ofString "@down") = true := by decide +kernel
    simp [PyData.canLay0, PyData.canLayAll0, h1, h2, cName_ok (i := 0) (by decide), cName_ok hat]
  refine Cmp.neData (d := .list [.tuple [.str (Str.ofString "@top"), .str (cName 0)], .tuple [.str (Str.ofString "@down"), .str (cName at_)], .none]) (e := .list [.tuple [.str (Str.ofString "@top"), .str (cName 0)], .tuple [.str (Str.ofString "@down"), .str (cName at_)], .none]) ?_ ?_ hlay hlay (by apply of_decide_eq_true; kernel_rfl) ?_
  · exact .list (e _ _ f1) (.cons (.tup (e _ _ f2) (.cons (.str _ _) (.cons (.str _ _) .nil))) (.cons (.tup (e _ _ f3) (.cons (.str _ _) (.cons (.str _ _) .nil))) (.cons .none .nil)))
  · refine .list (upd_same _ _ _) (.cons (.tup (a := g1) (upd_old hg3 (upd_old hg2 (upd_same _ _ _))) (.cons (.str _ _) (.cons (.str _ _) .nil))) (.cons (.tup (a := g2) (upd_old hg3 (upd_same _ _ _)) (.cons (.str _ _) (.cons (.str _ _) .nil))) (.cons .none .nil)))
  rw [PySem.SeqAt.eqv_refl _ hlay]
  generalize hσ : upd (upd (upd σ g1 _) g2 _) g3 _ = σ1 at e ⊢
  have hw1 := e _ _ hw
  have hrl1 := e _ _ hrl
  repeat walk_at "m"
  refine WE.neg (i := 1) (t := 0) ?_
  repeat walk_at "m"
  refine SubP.listNeg hrl1 (by decide) (by decide) (head_idx (cs' := cs') (ah := ah) (rh := rh)).2 (head_idx (cs' := cs') (ah := ah) (rh := rh)).1 ?_
  repeat walk_at "m"
  refine callc (k := 1) (line_of_kept hw1 (e _ _ hk1) hk2 (e _ _ hk3)) (by decide) ?_
  rintro _ σ2 ⟨rfl, e2⟩
  repeat walk_at "m"
  refine WCall.len (e2 _ _ (e _ _ hk4)) (by rw [List.length_map]; omega) ?_
  repeat walk_at "m"
  have hne : (((L.map Value.ref).length : Int) != (many : Int) + 3) = false := by
    rw [List.length_map, hL]; simp
  refine iteF (by rw [hne]) ?_
  iterate 3 walk_at "m"
  exact hP σ2 (e.trans e2)
end
-- P23
section
variable {x : XX} {n : Nat} {σ : AH}
theorem Ownd.split {base : AH} {Cl : Addr} {lo : Int} {a : Addr} {r : MR} {q : List (Addr × MR)} : ∀ {p zs : List (Addr × MR)}, Ownd base σ Cl lo (p ++ (a, r) :: q) zs →
    ∃ pz z rz qz, zs = pz ++ (z, rz) :: qz ∧ Zr base σ lo a z rz ((hd? qz).getD Cl) ∧ ∀ p' ∈ pz, p'.2.methods ≠ rz.methods
  | [], [], h => h.elim
  | [], (z, rz) :: qz, h => ⟨[], z, rz, qz, rfl, h.1, fun _ hp => by cases hp⟩
  | _ :: _, [], h => h.elim
  | (b, s) :: p, (z, rz) :: zs, h => by
    obtain ⟨pz, z', rz', qz, e, h1, h2⟩ := Ownd.split (p := p) h.2.2
    refine ⟨(z, rz) :: pz, z', rz', qz, by rw [e]; rfl, h1, fun p' hp => ?_⟩
    rcases List.mem_cons.mp hp with rfl | hp
    · exact fun e' => h.2.1 (z', rz') (by rw [e]; simp) e'.symm
    · exact h2 p' hp
theorem Ownd.all {base : AH} {Cl : Addr} {lo : Int} : ∀ {as zs : List (Addr × MR)}, Ownd base σ Cl lo as zs → ∀ pre z rz rest, zs = pre ++ (z, rz) :: rest → ∃ a ∈ as.map (·.1), Zr base σ lo a z rz ((hd? rest).getD Cl)
  | [], [], _, pre, z, rz, rest, e => by simp at e
  | (a, _) :: as, (z', r') :: zs, h, [], z, rz, rest, e => by
    cases e
    exact ⟨a, by simp, h.1⟩
  | (a, _) :: as, (z', r') :: zs, h, p :: pre, z, rz, rest, e => by
    cases e
    obtain ⟨b, hb, h1⟩ := Ownd.all h.2.2 pre z rz rest rfl
    exact ⟨b, by simp only [List.map_cons, List.mem_cons]; exact .inr hb, h1⟩
  | [], _ :: _, h, _, _, _, _, _ => h.elim
  | _ :: _, [], h, _, _, _, _, _ => h.elim
theorem Ownd.nodup {base : AH} {Cl : Addr} {lo : Int} : ∀ {as zs : List (Addr × MR)}, Ownd base σ Cl lo as zs → (as.map (·.1)).Nodup → (zs.map (·.1)).Nodup
  | [], [], _, _ => List.nodup_nil
  | (a, _) :: as, (z, r) :: zs, h, hn => by
    obtain ⟨h1, h2⟩ := List.nodup_cons.mp hn
    refine List.nodup_cons.mpr ⟨fun hm => ?_, Ownd.nodup h.2.2 h2⟩
    obtain ⟨⟨z', r'⟩, hp, rfl⟩ := List.mem_map.mp hm
    obtain ⟨s, t, e⟩ := List.append_of_mem hp
    obtain ⟨b, hb, hz⟩ := Ownd.all h.2.2 s z' r' t e
    have := Md.eq h.1.at_ hz.at_
    have e1 := h.1.att
    rw [this, hz.att] at e1
    cases e1
    exact h1 hb
  | [], _ :: _, h, _ => h.elim
  | _ :: _, [], h, _ => h.elim
theorem Ownd.len {base : AH} {Cl : Addr} {lo : Int} : ∀ {as zs : List (Addr × MR)}, Ownd base σ Cl lo as zs → zs.length = as.length
  | [], [], _ => rfl
  | (a, _) :: as, (z, r) :: zs, h => by simp [Ownd.len h.2.2]
  | [], _ :: _, h => h.elim
  | _ :: _, [], h => h.elim
theorem hd?_app {l m : List (Addr × MR)} {d : Addr} (h : hd? m = some d) : hd? (l ++ m) = some ((hd? l).getD d) := by
  cases l with
  | nil => exact h
  | cons p l => rfl
theorem min_cast (a : Nat) : (if (9 : Int) < (a : Int) then (9 : Int) else (a : Int)) = ((min a 9 : Nat) : Int) := by
  split <;> omega
theorem classes_own {at_ : Nat} {P : Flow → VM → AH → Prop} {σ0 : AH} {w rl O B C M K e1 e2 a0 ag : Addr} {wr : WR} {cs : List (Addr × MR)} {vm : VM} {ro rb rk : MR} (S : CPut σ0 w rl O B C M K e1 e2 a0 ag wr at_ cs) (hb : Base σ0 O B C M K ro rb rk) (ht : Top2 C K ro rb rk) (hz : cs.length ≤ 550) (hat : at_ < cs.length)
    (lo : Lo ((cs ++ [(O, ro), (B, rb)]).map (·.1)) 2 σ0 σ)
    (u1 : vm (Str.ofString "world") = some (.ref w)) (u2 : vm (Str.ofString "rows") = some (.ref rl)) (u3 : vm (Str.ofString "at") = some (.int at_ 0)) (u4 : vm (Str.ofString "own_module") = some (.ref 487)) (u5 : vm (Str.ofString "min") = some (.builtin "min"))
    (hP : ∀ pJ aj rj sJ z rz zs σ' l, cs = pJ ++ (aj, rj) :: sJ → Ownd σ σ' C wr.last (((aj, rj) :: sJ) ++ [(O, ro), (B, rb)]) ((z, rz) :: zs) → Ko ((((aj, rj) :: sJ) ++ [(O, ro), (B, rb)]).map (·.1)) w σ σ' →
      σ' w = some (.inst 870 ({ wr with last := l, version := wr.version + (((aj, rj) :: sJ) ++ [(O, ro), (B, rb)]).length } : WR).fs) → ((((aj, rj) :: sJ) ++ [(O, ro), (B, rb)]).map (·.1)).Nodup → WS (gx x) 16 (sf x 898) ((bf x 898).drop 8) (vm.set (Str.ofString "own") (.ref z)) σ' P) :
    WS (gx x) 16 (sf x 898) ((bf x 898).drop 7) vm σ P := by
  obtain ⟨kv, R⟩ := S.rows
  obtain ⟨pJ, ⟨aj, rj⟩, sJ, hJ, hsJ⟩ := split_at (l := cs) (i := min at_ 9) (by omega)
  have w1 := lo.km.world S.W.at_
  have rl1 := lo.km.list S.rl
  change WS _ _ _ (_ :: _) _ _ _
  repeat walk_at "m"
  refine WCall.minI ?_
  rw [min_cast]
  refine SubP.list rl1 (by omega) (by omega) (by rw [hJ]; exact rev_idx (by rw [hsJ])) ?_
  repeat walk_at "m"
  have W : Wo σ w wr (kv5 O B C M K) C M := ⟨w1, lo.km.sdict S.W.made, lo.km.sdict S.W.nat, lo.km.sdict S.W.pre, kv5_C O B C M K, kv5_M O B C M K⟩
  have nOB : O ≠ B := ne_num hb.o hb.b (by rw [hb.ono, hb.bno]; decide)
  have kO : ∃ k, Md σ O { ro with kept := k } := let ⟨t, _, h, _⟩ := lo.inn O ro (by simp) hb.o; ⟨_, h⟩
  have kB : ∃ k, Md σ B { rb with kept := k } := let ⟨t, _, h, _⟩ := lo.inn B rb (by simp) hb.b; ⟨_, h⟩
  have hC : ∀ pre b q suf, ((aj, rj) :: sJ) = pre ++ (b, q) :: suf → Cr σ0 C ((hd? suf).getD O) (7 + suf.length) (cName suf.length) b q (kv suf.length) := fun pre b q suf e => by
    have : cs = (pJ ++ pre) ++ (b, q) :: suf := by rw [hJ, e]; simp
    exact CRows.at_ (this ▸ R)
  have hE : ∀ pre b q suf, (aj, rj) :: (sJ ++ [(O, ro), (B, rb)]) = pre ++ (b, q) :: suf → Oe σ C b q suf := fun pre b q suf e => by
    have e : ((aj, rj) :: sJ) ++ [(O, ro), (B, rb)] = pre ++ (b, q) :: suf := e
    rcases List.append_eq_append_iff.mp e with ⟨s, e1, e2⟩ | ⟨s, e1, e2⟩
    · match s, e2 with
      | [], e2 => cases e2; exact ⟨kO, ht.o1, ht.c1, ht.t1, hb.op, (fun s hs => by rw [ht.n1] at hs; cases hs; decide), fun h => by cases h⟩
      | [_], e2 => cases e2; exact ⟨kB, ht.o2, ht.c2, ht.t2, hb.bp, (fun s hs => by rw [ht.n2] at hs; cases hs; decide), fun _ => ht.w2⟩
      | _ :: _ :: s, e2 => simp at e2
    · match s, e2 with
      | [], e2 => cases e2; exact ⟨kO, ht.o1, ht.c1, ht.t1, hb.op, (fun s hs => by rw [ht.n1] at hs; cases hs; decide), fun h => by cases h⟩
      | (b', q') :: s, e2 =>
        cases e2
        have c := hC pre b q s e1
        obtain ⟨t, _, h, _⟩ := lo.inn b q (by rw [hJ, e1]; simp) c.at_
        exact ⟨⟨_, h⟩, c.own, c.cls, c.att, by rw [c.pa]; exact (hd?_app rfl).symm, (fun s hs => by rw [c.nat] at hs; cases hs), fun h => by simp at h⟩
  have R2 : CRows σ0 C O kv ((aj, rj) :: sJ) := by
    have : ∀ {p : List (Addr × MR)}, CRows σ0 C O kv (p ++ (aj, rj) :: sJ) → CRows σ0 C O kv ((aj, rj) :: sJ) := fun {p} h => by
      induction p with
      | nil => exact h
      | cons q p ih => exact ih h.2.2
    exact this (hJ ▸ R)
  have hlen : cs.length = pJ.length + (sJ.length + 1) := by rw [hJ]; simp
  have hnum : ∀ b q, (b, q) ∈ ((aj, rj) :: sJ) → Md σ0 b q ∧ 7 ≤ q.number ∧ q.number ≤ wr.last := fun b q h => by
    obtain ⟨s, t, e⟩ := List.append_of_mem h
    have c := hC s b q t e
    have hl := congrArg List.length e
    simp at hl
    rw [c.num, S.last]
    exact ⟨c.at_, by omega, by omega⟩
  have hnd : ((((aj, rj) :: sJ) ++ [(O, ro), (B, rb)]).map (·.1)).Nodup := by
    rw [List.map_append]
    refine List.nodup_append.mpr ⟨R2.nodup, by simp [nOB], fun a ha b hb' e => ?_⟩
    obtain ⟨⟨p, q⟩, hp, rfl⟩ := List.mem_map.mp ha
    obtain ⟨h1, h2, _⟩ := hnum p q hp
    simp only [List.map_cons, List.map_nil, List.mem_cons, List.not_mem_nil, or_false] at hb'
    rcases hb' with rfl | rfl
    · exact ne_num h1 hb.o (by rw [hb.ono]; omega) e
    · exact ne_num h1 hb.b (by rw [hb.bno]; omega) e
  refine callc (k := 7) (own_module_make (rest := sJ ++ [(O, ro), (B, rb)]) W hE hnd (by simp; omega) ?_) (by decide) ?_
  · intro b q h
    have h : (b, q) ∈ ((aj, rj) :: sJ) ++ [(O, ro), (B, rb)] := h
    rcases List.mem_append.mp h with h | h
    · exact (hnum b q h).2.2
    · have hl := S.last
      simp only [List.mem_cons, List.not_mem_nil, or_false, Prod.mk.injEq] at h
      rcases h with ⟨rfl, rfl⟩ | ⟨rfl, rfl⟩
      · rw [hb.ono]; omega
      · rw [hb.bno]; omega
  rintro _ σ2 ⟨z, rz, zs, rfl, ow, ko, l, _, w2⟩
  exact hP pJ aj rj sJ z rz zs σ2 l hJ ow ko w2 hnd
end
-- P24
section
variable {x : XX} {n : Nat} {σ : AH}
theorem W5.extra {w O B C M K : Addr} {wr : WR} (W : W5 σ w wr O B C M K) : ∃ rc rm, Md σ C rc ∧ Md σ M rm ∧ rc.number = 4 ∧ rm.number = 5 ∧ rc.parent = some M ∧ rm.parent = some O ∧ rc.kept = none ∧ rm.kept = none ∧
    σ rc.mixed = some (.list []) ∧ σ rc.ahead = some (.list []) ∧ σ rm.mixed = some (.list []) ∧ σ rm.ahead = some (.list []) := by
  obtain ⟨f, m, c, xx, yy, h1, h2, h3, h4, _⟩ := W.bC.ex
  obtain ⟨f', m', c', xx', yy', h1', h2', h3', h4', _⟩ := W.bM.ex
  exact ⟨_, _, h1, h1', rfl, rfl, rfl, rfl, rfl, rfl, h3, h4, h3', h4'⟩
theorem fnd_pre {nm : Str} {L : List Addr} {o : Option Addr} (hL : Fnd σ nm L o) : ∀ {pz : List (Addr × MR)}, (∀ p ∈ pz, Mth σ p.1 nm none) → Fnd σ nm (pz.map (·.1) ++ L) o
  | [], _ => hL
  | p :: pz, h => .skip (h p (by simp)) (fnd_pre hL fun q hq => h q (by simp [hq]))
theorem own_name : (Str.ofString "#<Class:" ++ cName 0) ++ Str.ofString ">" = Str.ofString "#<Class:C0>" := by decide +kernel
theorem classes_last {P : Flow → VM → AH → Prop} {at_ : Nat} {σ0 σ2 : AH} {w rl O B C M K e1 e2 a0 ag z aj : Addr} {wr : WR} {l : Int} {cs pJ sJ zs : List (Addr × MR)} {vm : VM} {ro rb rk rj rz : MR} (S : CPut σ0 w rl O B C M K e1 e2 a0 ag wr at_ cs) (hb : Base σ0 O B C M K ro rb rk) (ht : Top2 C K ro rb rk) (hz : cs.length ≤ 550)
    (lo : Lo ((cs ++ [(O, ro), (B, rb)]).map (·.1)) 2 σ0 σ) (hJ : cs = pJ ++ (aj, rj) :: sJ) (ow : Ownd σ σ2 C wr.last (((aj, rj) :: sJ) ++ [(O, ro), (B, rb)]) ((z, rz) :: zs)) (ko : Ko ((((aj, rj) :: sJ) ++ [(O, ro), (B, rb)]).map (·.1)) w σ σ2)
    (w2 : σ2 w = some (.inst 870 ({ wr with last := l, version := wr.version + (((aj, rj) :: sJ) ++ [(O, ro), (B, rb)]).length } : WR).fs))
    (hnd : ((((aj, rj) :: sJ) ++ [(O, ro), (B, rb)]).map (·.1)).Nodup)
    (u1 : vm (Str.ofString "world") = some (.ref w)) (u2 : vm (Str.ofString "rows") = some (.ref rl)) (u4 : vm (Str.ofString "own_module") = some (.ref 487)) (u5 : vm (Str.ofString "_law_put") = some (.ref 881)) (u6 : vm (Str.ofString "_law_plain") = some (.ref 888)) (u7 : vm (Str.ofString "find") = some (.ref 459))
    (u8 : vm (Str.ofString "own") = some (.ref z)) (hP : ∀ σ', P (.ret (.bool true)) vm σ') : WS (gx x) 16 (sf x 898) ((bf x 898).drop 8) vm σ2 P := by
  obtain ⟨kv, R⟩ := S.rows
  obtain ⟨pre0, r0, hc0⟩ := S.c0
  have h0 := CRows.at_ (pre := pre0) (hc0 ▸ R)
  have rl1 := lo.km.list S.rl
  have w1 := lo.km.world S.W.at_
  -- an address that is no class of the chain
  have hmem : ∀ p ∈ ((aj, rj) :: sJ), p ∈ cs := fun p hp => by rw [hJ]; exact List.mem_append_right _ hp
  have hcs : ∀ p ∈ cs, Md σ0 p.1 p.2 ∧ 7 ≤ p.2.number := fun p hp => by
    obtain ⟨s, t, e⟩ := List.append_of_mem hp
    have c := CRows.at_ (a := p.1) (r := p.2) (suf := t) (pre := s) (e ▸ R)
    exact ⟨c.at_, by rw [c.num]; omega⟩
  have hS : ∀ (b : Addr) (o : AO), σ0 b = some o → (∀ fs, o ≠ .inst 228 fs) → b ∉ (((aj, rj) :: sJ) ++ [(O, ro), (B, rb)]).map (·.1) := fun b o hbo hno hm => by
    obtain ⟨p, hp, rfl⟩ := List.mem_map.mp hm
    rcases List.mem_append.mp hp with hp | hp
    · exact hno _ (Option.some.inj (hbo.symm.trans (hcs p (hmem p hp)).1))
    · simp only [List.mem_cons, List.not_mem_nil, or_false] at hp
      rcases hp with rfl | rfl
      · exact hno _ (Option.some.inj (hbo.symm.trans hb.o))
      · exact hno _ (Option.some.inj (hbo.symm.trans hb.b))
  have k2 : ∀ (b : Addr) (o : AO), σ0 b = some o → (∀ fs, o ≠ .inst 228 fs) → b ≠ w → σ2 b = some o := fun b o hbo hno hbw => ko.ot _ _ (lo.km.ot _ _ hbo hno) (hS b o hbo hno) hbw
  have rl2 := k2 _ _ S.rl (by simp) (ne_kd S.rl S.W.at_ rfl)
  -- the first class stands at the chain's end
  obtain ⟨pA, hA⟩ : ∃ pA, (aj, rj) :: sJ = pA ++ [(a0, r0)] := by
    have e := hJ.symm.trans hc0
    rcases List.eq_nil_or_concat ((aj, rj) :: sJ) with h | ⟨L, b, h⟩
    · cases h
    · rw [List.concat_eq_append] at h
      rw [h, ← List.append_assoc] at e
      have := List.append_inj_right' e rfl
      exact ⟨L, by rw [h, this]⟩
  have ow2 := ow
  rw [hA, List.append_assoc] at ow2
  obtain ⟨pz, z0, rz0, qz, hzz, hZ, hpz⟩ := Ownd.split ow2
  obtain ⟨q0, hq0, hqo⟩ := hZ.own
  change WS _ _ _ (_ :: _) _ _ _
  repeat walk_at "m"
  refine SubP.list rl2 (by decide) (by decide) (by rw [hc0]; exact rev_idx rfl) ?_
  repeat walk_at "m"
  refine callc (k := 7) (own_module_has hq0 hqo) (by decide) ?_
  rintro _ σ3 ⟨rfl, e3⟩
  repeat walk_at "m"
  refine callc (k := 4) (law_put_spec (e3 _ _ hZ.at_) (.inr ⟨a0, q0, hZ.att, e3 _ _ hq0⟩) (e3 _ _ w2) (e3 _ _ hZ.m) (by simp)) (by decide) ?_
  rintro _ σ4 ⟨ek, tk, σ5, fk, e5, hk, rfl⟩
  have w5 := e5 _ _ (e3 _ _ w2)
  have m5 := e5 _ _ (e3 _ _ hZ.m)
  have k4 : ∀ b o, σ2 b = some o → b ≠ w → b ≠ rz0.methods → (upd (upd σ5 rz0.methods (.sdict (stored [] (Str.ofString "k") (.ref ek)))) w (.inst 870 ({ ({ wr with last := l, version := wr.version + (((aj, rj) :: sJ) ++ [(O, ro), (B, rb)]).length } : WR) with version := wr.version + (((aj, rj) :: sJ) ++ [(O, ro), (B, rb)]).length + 1 } : WR).fs)) b = some o := fun b o hbo h1 h2 => upd_at h1 (upd_at h2 (e5 _ _ (e3 _ _ hbo)))
  generalize hσ4 : upd (upd σ5 rz0.methods _) w _ = σ4 at k4 ⊢
  have w4 : σ4 w = some (.inst 870 (WR.fs { wr with last := l, version := wr.version + ((((aj, rj) :: sJ) ++ [(O, ro), (B, rb)]).length : Int) + 1 })) := by rw [← hσ4]; exact upd_same _ _ _
  have ek4 := show σ4 ek = some (.inst 256 (ER.fs ⟨Str.ofString "k", z0, Str.ofString "reader", Str.ofString "@own", Str.ofString "public", tk⟩)) from by rw [← hσ4]; exact upd_at (ne_ew hk w5) (upd_at (ne_kd hk m5 rfl) hk)
  have m4 : σ4 rz0.methods = some (.sdict (stored [] (Str.ofString "k") (.ref ek))) := by rw [← hσ4]; exact upd_at (ne_kd m5 w5 rfl) (upd_same _ _ _)
  clear hσ4
  have hfr := hZ.fr
  have k04 : ∀ b o, σ0 b = some o → (∀ fs, o ≠ .inst 228 fs) → b ≠ w → σ4 b = some o := fun b o h hn hw' => k4 b o (k2 b o h hn hw') hw' (fun e' => by have := lo.km.ot _ _ h hn; rw [e', hfr] at this; cases this)
  have hSσ : ∀ b o, σ b = some o → o.kd ≠ 0 → b ∉ (((aj, rj) :: sJ) ++ [(O, ro), (B, rb)]).map (·.1) := fun b o hbo ho hm => by
    obtain ⟨p, hp, rfl⟩ := List.mem_map.mp hm
    have : ∃ q, Md σ0 p.1 q := by
      rcases List.mem_append.mp hp with hp | hp
      · exact ⟨_, (hcs p (hmem p hp)).1⟩
      · simp only [List.mem_cons, List.not_mem_nil, or_false] at hp
        rcases hp with rfl | rfl
        · exact ⟨_, hb.o⟩
        · exact ⟨_, hb.b⟩
    obtain ⟨q, hq⟩ := this
    obtain ⟨k, hk'⟩ := lo.km.md _ _ hq
    have e' := hbo.symm.trans hk'
    cases e'
    exact ho rfl
  have k14 : ∀ b o, σ b = some o → o.kd ≠ 0 → b ≠ w → σ4 b = some o := fun b o h ho hw' => k4 b o (ko.ot _ _ h (hSσ b o h ho) hw') hw' (fun e' => by rw [e', hfr] at h; cases h)
  have i4 : ∀ a r, Md σ2 a r → Md σ4 a r := fun a r h => k4 a _ h (ne_mw h w2) (ne_kd hZ.m h rfl).symm
  have hN : ∀ b r, Md σ0 b r → 4 ≤ r.number → r.number ≤ 6 → Md σ4 b r := fun b r h n1 n2 => by
    have hni : ∀ p ∈ cs ++ [(O, ro), (B, rb)], b ≠ p.1 := fun p hp => by
      rcases List.mem_append.mp hp with hp | hp
      · obtain ⟨h1, h2⟩ := hcs p hp
        exact ne_num h h1 (by omega)
      · simp only [List.mem_cons, List.not_mem_nil, or_false] at hp
        rcases hp with rfl | rfl
        · exact ne_num h hb.o (by rw [hb.ono]; omega)
        · exact ne_num h hb.b (by rw [hb.bno]; omega)
    have n3 : b ∉ (cs ++ [(O, ro), (B, rb)]).map (·.1) := fun hm => by
      obtain ⟨p, hp, e'⟩ := List.mem_map.mp hm
      exact hni p hp e'.symm
    have n4 : b ∉ (((aj, rj) :: sJ) ++ [(O, ro), (B, rb)]).map (·.1) := fun hm => by
      obtain ⟨p, hp, e'⟩ := List.mem_map.mp hm
      refine hni p ?_ e'.symm
      rcases List.mem_append.mp hp with hp | hp
      · exact List.mem_append_left _ (hmem p hp)
      · exact List.mem_append_right _ hp
    have h1 := lo.out b r n3 h
    exact i4 _ _ (ko.ot _ _ h1 n4 (ne_mw h1 w1))
  obtain ⟨tO, lO, hO1, hO2⟩ := lo.inn O ro (by simp) hb.o
  obtain ⟨tB, lB, hB1, hB2⟩ := lo.inn B rb (by simp) hb.b
  obtain ⟨oO, hO3⟩ := ko.md O _ (by simp) hO1
  obtain ⟨oB, hB3⟩ := ko.md B _ (by simp) hB1
  obtain ⟨rc, rm, c1, c2, c3, c4, c5, c6, c7, c8, c9, c10, c11, c12⟩ := S.W.extra
  have nl : ∀ {xs : List Value}, ∀ fs, AO.list xs ≠ .inst 228 fs := by intro xs fs h; cases h
  have lst : ∀ {b xs}, σ0 b = some (.list xs) → σ4 b = some (.list xs) := fun h => k04 _ _ h nl (ne_kd h S.W.at_ rfl)
  have hb4 : Base σ4 O B C M K _ _ _ := ⟨i4 _ _ hO3, i4 _ _ hB3, hN K rk hb.k (by rw [hb.kno]; decide) (by rw [hb.kno]; decide), hb.ono, hb.bno, hb.kno, hb.op, hb.bp, lst hb.ox, lst hb.oy, lst hb.bx, lst hb.bY, lst hb.kx, lst hb.ky⟩
  have hver : (2 : Int) ≠ wr.version + ((((aj, rj) :: sJ) ++ [(O, ro), (B, rb)]).length : Int) + 1 := by rw [S.ver]; omega
  have hlen := ow.len
  have hJl := congrArg List.length hJ
  have hzr : ∀ pre z' r' rest, (z, rz) :: zs = pre ++ (z', r') :: rest → Md σ4 z' r' ∧ σ4 r'.mixed = some (.list []) ∧ σ4 r'.ahead = some (.list []) ∧ r'.kept = none ∧ r'.parent = some ((hd? rest).getD C) ∧ wr.last < r'.number := fun pre z' r' rest e => by
    obtain ⟨b, _, h⟩ := ow.all pre z' r' rest e
    exact ⟨i4 _ _ h.at_, k4 _ _ h.xs (ne_kd h.xs w2 rfl) (ne_kd h.xs hZ.m rfl), k4 _ _ h.ys (ne_kd h.ys w2 rfl) (ne_kd h.ys hZ.m rfl), h.kept, h.pa, h.num⟩
  have hlast : 7 ≤ wr.last := by
    have := S.last
    simp at hJl
    omega
  have hline := line_of_chain (x := x) (C := C) (M := M) (ps := ((z, rz) :: zs) ++ [(C, rc), (M, rm)]) w4 hb4 ⟨2, lO, k14 _ _ hO2 (by simp [AO.kd]) (ne_kd hO2 w1 rfl), hver⟩ ⟨2, lB, k14 _ _ hB2 (by simp [AO.kd]) (ne_kd hB2 w1 rfl), hver⟩ ?_ ?_ ?_
  · rw [show oA (hd? (((z, rz) :: zs) ++ [(C, rc), (M, rm)] ++ [(O, _), (B, _)])) = .ref z from rfl] at hline
    have hf : Fnd σ4 (Str.ofString "k") ((((z, rz) :: zs) ++ [(C, rc), (M, rm)]).map (·.1) ++ [O, K, B]) (some ek) := by
      rw [hzz, List.append_assoc, List.map_append, List.append_assoc]
      refine fnd_pre (Fnd.hit ⟨rz0, _, i4 _ _ hZ.at_, m4, by rw [valueAt_stored, if_pos rfl]⟩ ek4 rfl) fun p hp => ?_
      obtain ⟨s, t, e⟩ := List.append_of_mem hp
      obtain ⟨b, _, h⟩ := ow.all s p.1 p.2 (t ++ (z0, rz0) :: qz) (by rw [hzz, e]; simp)
      exact ⟨p.2, _, i4 _ _ h.at_, k4 _ _ h.m (ne_kd h.m w2 rfl) (hpz p hp), rfl⟩
    have nsd : ∀ {xs}, ∀ fs, AO.sdict xs ≠ .inst 228 fs := by intro xs fs h; cases h
    have nat4 := k04 _ _ S.W.nat nsd (ne_kd S.W.nat S.W.at_ rfl)
    have pre4 := k04 _ _ S.W.pre nsd (ne_kd S.W.pre S.W.at_ rfl)
    have hz04 := i4 _ _ hZ.at_
    obtain ⟨t0, l0, ha1, _⟩ := lo.inn a0 r0 (by rw [hc0]; simp) h0.at_
    obtain ⟨o0, ha2⟩ := ko.md a0 _ (by rw [hA]; simp) ha1
    have ha4 := i4 _ _ ha2
    repeat walk_at "m"
    refine callc (k := 6) (find_spec hline (P := fun v σ'' => v = .ref ek ∧ ∃ σ6, Km σ4 σ6 ∧ Ext σ6 σ'') ?_) (by decide) ?_
    · rintro _ σ6 ⟨D, rfl, fD, hD, lo6, _⟩
      exact ⟨D, rfl, (first_entry_spec (lo6.km.world w4) (lo6.km.sdict nat4) (lo6.km.sdict pre4) hD (hf.km lo6.km)).mono fun v σ'' ⟨e, ex⟩ => ⟨e, σ6, lo6.km, ex⟩⟩
    rintro _ σ7 ⟨rfl, σ6, km6, e7⟩
    obtain ⟨k6, hz6⟩ := km6.md _ _ hz04
    obtain ⟨k6', ha6⟩ := km6.md _ _ ha4
    repeat walk_at "m"
    refine callc (k := 2) (law_plain_some (e7 _ _ (km6.entry ek4)) rfl (full_name_own (e7 _ _ hz6) hZ.att ?_ (e7 _ _ ha6) h0.att h0.nm h0.out (cName_len (by decide)))) (by decide) ?_
    · show rz0.number ≠ r0.number
      have := hZ.num
      have h1 := h0.num
      have h2 := S.last
      simp at h1 hJl
      omega
    rintro _ σ8 ⟨t8, rfl, f8, e8, h8⟩
    repeat walk_at "m"
    intro t9 h9
    repeat walk_at "m"
    have h8' : σ8 t8 = some (.tup [.str (Str.ofString "@own") 0, .str (Str.ofString "#<Class:C0>") 0]) := by rw [← own_name]; exact h8
    have hlay : (PyData.tuple [.str (Str.ofString "@own"), .str (Str.ofString "#<Class:C0>")]).canLay0 = true := by decide +kernel
    refine Cmp.eqData (d := .tuple [.str (Str.ofString "@own"), .str (Str.ofString "#<Class:C0>")]) (e := .tuple [.str (Str.ofString "@own"), .str (Str.ofString "#<Class:C0>")]) (.tup (upd_old h9 h8') (.cons (.str _ _) (.cons (.str _ _) .nil))) (.tup (upd_same _ _ _) (.cons (.str _ _) (.cons (.str _ _) .nil))) hlay hlay (by apply of_decide_eq_true; kernel_rfl) ?_
    rw [PySem.SeqAt.eqv_refl _ hlay]
    repeat walk_at "m"
    exact hP _
  · intro pre a r rest e
    rcases List.append_eq_append_iff.mp e with ⟨s, q1, q2⟩ | ⟨s, q1, q2⟩
    · match s, q2 with
      | [], q2 => cases q2; exact ⟨hN C rc c1 (by omega) (by omega), lst c9, lst c10, by rw [c7]; trivial, c5, ne_num c1 hb.o (by rw [c3, hb.ono]; decide), ne_num c1 hb.b (by rw [c3, hb.bno]; decide)⟩
      | [_], q2 => cases q2; exact ⟨hN M rm c2 (by omega) (by omega), lst c11, lst c12, by rw [c8]; trivial, c6, ne_num c2 hb.o (by rw [c4, hb.ono]; decide), ne_num c2 hb.b (by rw [c4, hb.bno]; decide)⟩
      | _ :: _ :: s, q2 => simp at q2
    · match s, q2 with
      | [], q2 => cases q2; exact ⟨hN C rc c1 (by omega) (by omega), lst c9, lst c10, by rw [c7]; trivial, c5, ne_num c1 hb.o (by rw [c3, hb.ono]; decide), ne_num c1 hb.b (by rw [c3, hb.bno]; decide)⟩
      | _ :: s, q2 =>
        cases q2
        obtain ⟨g1, g2, g3, g4, g5, g6⟩ := hzr pre a r s q1
        refine ⟨g1, g2, g3, by rw [g4]; trivial, ?_, ne_num g1 hb4.o (by rw [hb4.ono]; omega), ne_num g1 hb4.b (by rw [hb4.bno]; omega)⟩
        rw [g5]
        show _ = hd? ((s ++ [(C, rc), (M, rm)]) ++ _)
        rw [List.append_assoc]
        exact (hd?_app rfl).symm
  · rw [List.map_append]
    refine List.nodup_append.mpr ⟨ow.nodup hnd, ?_, fun a ha b hb' e => ?_⟩
    · have : C ≠ M := ne_num c1 c2 (by rw [c3, c4]; decide)
      simp [this]
    · obtain ⟨⟨p, q⟩, hp, rfl⟩ := List.mem_map.mp ha
      obtain ⟨s, t, e'⟩ := List.append_of_mem hp
      obtain ⟨g1, _, _, _, _, g6⟩ := hzr s p q t e'
      simp only [List.map_cons, List.map_nil, List.mem_cons, List.not_mem_nil, or_false] at hb'
      rcases hb' with rfl | rfl
      · exact ne_num g1 (hN _ rc c1 (by omega) (by omega)) (by rw [c3]; omega) e
      · exact ne_num g1 (hN _ rm c2 (by omega) (by omega)) (by rw [c4]; omega) e
  · simp at hlen hJl ⊢
    omega
end
-- P25
section
variable {x : XX} {n : Nat} {σ : AH}
theorem law_classes {many at_ : Nat} (hm : 1 ≤ many) (hm2 : many ≤ 550) (hat : at_ < many) : WCode (gx x) 17 898 [.int many 0, .int at_ 0] σ fun v _ => v = .bool true := by
  refine WCode.ofP fk_898_2 rfl fun Pq hPq => ?_
  refine classes_rows hm hm2 ?_
  intro w rl O B C M K wr cs vm σ1 S hlen hv g
  have u1 : vm (Str.ofString "world") = some (.ref w) := (g _ (by decide)).trans (by walk_at "vm")
  have u2 : vm (Str.ofString "rows") = some (.ref rl) := (g _ (by decide)).trans (by walk_at "vm")
  have u3 : vm (Str.ofString "at") = some (.int at_ 0) := (g _ (by decide)).trans (by walk_at "vm")
  have u4 : vm (Str.ofString "many") = some (.int many 0) := (g _ (by decide)).trans (by walk_at "vm")
  have u5 : vm (Str.ofString "_law_put") = some (.ref 881) := (g _ (by decide)).trans (by walk_at "vm")
  have u6 : vm (Str.ofString "str") = some (.type "str") := (g _ (by decide)).trans (by walk_at "vm")
  have u7 : vm (Str.ofString "len") = some (.builtin "len") := (g _ (by decide)).trans (by walk_at "vm")
  have u8 : vm (Str.ofString "line_of") = some (.ref 410) := (g _ (by decide)).trans (by walk_at "vm")
  have u9 : vm (Str.ofString "own_module") = some (.ref 487) := (g _ (by decide)).trans (by walk_at "vm")
  have u10 : vm (Str.ofString "min") = some (.builtin "min") := (g _ (by decide)).trans (by walk_at "vm")
  have u11 : vm (Str.ofString "_law_plain") = some (.ref 888) := (g _ (by decide)).trans (by walk_at "vm")
  have u12 : vm (Str.ofString "find") = some (.ref 459) := (g _ (by decide)).trans (by walk_at "vm")
  refine classes_puts S hlen hat hv hm2 u1 u2 u3 u5 ?_
  intro e1 e2 a0 ag wr' σ2 S2
  obtain ⟨ro, rb, rk, hb, ht⟩ := S2.W.base
  refine classes_found (many := many) S2 hb ht (by omega) u1 u2 ?_
  rintro fl t1 t2 σ3 lo ⟨D, ah, rh, t, hh, hk1, hk2, hk3, hk4⟩ f1 f2 f3
  have hL : (cs.map (·.1) ++ [O, K, B]).length = many + 3 := by simp [hlen]
  cases hcs : cs with
  | nil => rw [hcs] at hlen; simp at hlen; omega
  | cons p cs' =>
  obtain ⟨ah', rh'⟩ := p
  obtain rfl : ah' = ah := by rw [hcs] at hh; exact Option.some.inj hh
  have rl3 := lo.km.list S2.rl
  rw [hcs] at rl3
  have hv2 := S2.ver
  refine classes_if (rh := rh') (many := many) (at_ := at_) (lo.km.world S2.W.at_) rl3 hk1 hk2 (by rw [hv2]; exact hk3) hk4 hL hm2 (by omega) f1 f2 f3 (by walk_at "vm") (by walk_at "vm") (by walk_at "vm") (by walk_at "vm") (by walk_at "vm") (by walk_at "vm") (by walk_at "vm") (by walk_at "vm") ?_
  intro σ4 e4
  have lo4 := lo.ext e4
  refine classes_own S2 hb ht (by omega) (by omega) lo4 (by walk_at "vm") (by walk_at "vm") (by walk_at "vm") (by walk_at "vm") (by walk_at "vm") ?_
  intro pJ aj rj sJ z rz zs σ5 l hJ ow ko w5 hnd
  exact classes_last S2 hb ht (by omega) lo4 hJ ow ko w5 hnd (by walk_at "vm") (by walk_at "vm") (by walk_at "vm") (by walk_at "vm") (by walk_at "vm") (by walk_at "vm") (by walk_at "vm") (fun _ => hPq.ret _ _ _ rfl)
end
-- P26
section
variable {x : XX} {n : Nat} {σ : AH}
theorem need_mixin_spec {nu : Addr → Int} {mx ah : Addr → List Addr} {T : Addr → Prop} {k : Nat} {w a b : Addr} {r q : MR} {L : List Addr} {word : Str} (ha : Md σ a r) (hat : r.attached = none) (hb : Md σ b q) (hc : q.isClass = false)
    (hT : ∀ a, T a → ∃ r, Tb nu mx ah σ a r) (hg : Go nu mx ah T k [] [] [(b, false)] L) (hL : Ns nu σ L) (hno : ∀ c ∈ L, nu c ≠ r.number) :
    WCode (gx x) 4 529 [.ref w, .ref a, .ref b, .str word 0] σ fun _ σ' => Ext σ σ' := by
  have gc : getF (Str.ofString "is_class") q.fs = some (.bool false) := by rw [MR.get_isClass, hc]
  have hany : (L.any fun c => nu c == r.number) = false := by
    rw [List.any_eq_false]
    intro c hc'
    simpa using hno c hc'
  refine WCode.ofP fk_529_4 rfl fun Pq hPq => ?_
  change WS _ _ _ (_ :: _) (argVM _ _ [(_, _), (_, _), (_, _), (_, _)]) _ _
  repeat walk_at "m"
  refine callc (k := 1) (need_unfrozen_spec ha (.inl hat)) (by decide) ?_
  rintro _ _ rfl
  repeat walk_at "m"
  refine callc (k := 1) (own_line_spec hT hg) (by decide) ?_
  rintro _ σ1 ⟨D, rfl, fD, e1, hD⟩
  repeat walk_at "m"
  refine callc (k := 3) (has_thing_spec hD (hL.ext e1) (e1 _ _ ha)) (by decide) ?_
  rintro _ _ ⟨rfl, rfl⟩
  rw [hany]
  repeat walk_at "m"
  exact e1
theorem include_spec {nu : Addr → Int} {mx ah : Addr → List Addr} {T : Addr → Prop} {k k' : Nat} {w a b : Addr} {wr : WR} {r q : MR} {L : List Addr} (hw : σ w = some (.inst 870 wr.fs)) (ha : Md σ a r) (hat : r.attached = none) (hb : Md σ b q) (hc : q.isClass = false)
    (hT : ∀ a, T a → ∃ r, Tb nu mx ah σ a r) (hg : Go nu mx ah T k [] [] [(b, false)] L) (hL : Ns nu σ L) (hno : ∀ c ∈ L, nu c ≠ r.number) (hg' : Go nu mx ah T k' [] [] [(a, false)] [a]) (hna : r.number = nu a) (hnb : r.number ≠ q.number) (hmx : σ r.mixed = some (.list [])) :
    WCode (gx x) 5 536 [.ref w, .ref a, .ref b] σ fun _ σ' => ∃ σ1, Ext σ σ1 ∧ σ' = upd (upd σ1 r.mixed (.list [.ref b])) w (.inst 870 ({ wr with version := wr.version + 1 } : WR).fs) := by
  refine WCode.ofP fk_536_3 rfl fun Pq hPq => ?_
  change WS _ _ _ (_ :: _) (argVM _ _ [(_, _), (_, _), (_, _)]) _ _
  repeat walk_at "m"
  refine callc (k := 4) (need_mixin_spec ha hat hb hc hT hg hL hno) (by decide) ?_
  intro _ σ1 e1
  repeat walk_at "m"
  refine callc (k := 1) (own_line_spec (fun c h => let ⟨r, t⟩ := hT c h; ⟨r, t.ext e1⟩) hg') (by decide) ?_
  rintro _ σ2 ⟨D, rfl, fD, e2, hD⟩
  have e12 := e1.trans e2
  repeat walk_at "m"
  refine callc (k := 3) (has_thing_spec (nu := nu) (ms := [a]) hD (fun c hc' => by rw [List.mem_singleton.mp hc']; exact ⟨r, e12 _ _ ha, hna⟩) (e12 _ _ hb)) (by decide) ?_
  rintro _ _ ⟨rfl, rfl⟩
  have hany : ([a].any fun c => nu c == q.number) = false := by
    simp only [List.any_cons, List.any_nil, Bool.or_false]
    rw [← hna]; simpa using hnb
  rw [hany]
  have ha2 := e12 _ _ ha
  have hm2 := e12 _ _ hmx
  have hw2 := e12 _ _ hw
  repeat walk_at "m"
  refine callc (k := 1) (raise_version_spec (r := wr) (by walk_at "hp")) (by decide) ?_
  rintro _ _ rfl
  repeat walk_at "m"
  exact ⟨σ2, e12, rfl⟩
theorem prepend_spec {nu : Addr → Int} {mx ah : Addr → List Addr} {T : Addr → Prop} {k k' : Nat} {w a b : Addr} {wr : WR} {r q : MR} {L : List Addr} (hw : σ w = some (.inst 870 wr.fs)) (ha : Md σ a r) (hat : r.attached = none) (hb : Md σ b q) (hc : q.isClass = false)
    (hT : ∀ a, T a → ∃ r, Tb nu mx ah σ a r) (hg : Go nu mx ah T k [] [] [(b, false)] L) (hL : Ns nu σ L) (hno : ∀ c ∈ L, nu c ≠ r.number) (hg' : Go nu mx ah T k' [] [] [(a, false)] (a :: L)) (hna : r.number = nu a) (hz : L.length ≤ 1000) (hah : σ r.ahead = some (.list [])) :
    WCode (gx x) 5 541 [.ref w, .ref a, .ref b] σ fun _ σ' => ∃ σ1, Ext σ σ1 ∧ σ' = upd (upd σ1 r.ahead (.list [.ref b])) w (.inst 870 ({ wr with version := wr.version + 1 } : WR).fs) := by
  refine WCode.ofP fk_541_3 rfl fun Pq hPq => ?_
  change WS _ _ _ (_ :: _) (argVM _ _ [(_, _), (_, _), (_, _)]) _ _
  repeat walk_at "m"
  refine callc (k := 4) (need_mixin_spec ha hat hb hc hT hg hL hno) (by decide) ?_
  intro _ σ1 e1
  repeat walk_at "m"
  refine callc (k := 1) (own_line_spec (fun c h => let ⟨r, t⟩ := hT c h; ⟨r, t.ext e1⟩) hg') (by decide) ?_
  rintro _ σ2 ⟨D, rfl, fD, e2, hD⟩
  have e12 := e1.trans e2
  have ha2 := e12 _ _ ha
  have hb2 := e12 _ _ hb
  have hm2 := e12 _ _ hah
  have hw2 := e12 _ _ hw
  have hNs : Ns nu σ2 (a :: L) := fun c hc' => by
    rcases List.mem_cons.mp hc' with rfl | hc'
    · exact ⟨r, ha2, hna⟩
    · exact hL.ext e12 c hc'
  repeat walk_at "m"
  refine WE.sliceTo ?_ (by walk_at "hs2")
  repeat walk_at "m"
  refine WE.listComp [] ⟨by kernel_rfl⟩ (by intro y hy; cases hy) (WIt.list ?_) (by walk_at "hs2")
  repeat walk_at "m"
  refine ⟨D, _, rfl, hD, by simp; omega, fun k ys σ' => σ2 = σ' ∧ ys = ((a :: L).take k).map (fun c => Value.int (nu c) 0), ⟨rfl, by simp⟩, ?_, ?_, ?_⟩
  · rintro k ys σ' ⟨rfl, _⟩
    exact hD
  · rintro k y ys σ' hy ⟨rfl, rfl⟩
    obtain ⟨c, hk, rfl⟩ := ref_get hy
    obtain ⟨rc, hrc, hn⟩ := hNs c (mem_of_get hk)
    repeat walk_at "m"
    refine ⟨rfl, ?_⟩
    rw [take_succ' hk, List.map_append, hn]; rfl
  rintro ys σ' D1 ⟨rfl, rfl⟩ hD1
  rw [List.length_map, List.take_length]
  repeat walk_at "m"
  refine WCall.index (xs := (a :: L).map fun c => Value.int (nu c) 0) (j := 0) (upd_same _ _ _) (by simp; omega) (fun v hv => ?_) (by rw [hna]; rfl) (fun i hi => absurd hi (Nat.not_lt_zero _)) ?_
  · obtain ⟨c, _, rfl⟩ := List.mem_map.mp hv
    exact ⟨_, rfl⟩
  refine ⟨D, _, 0, 0, rfl, rfl, upd_old hD1 hD, Nat.zero_le _, by simp; omega, fun D2 hD2 => ?_⟩
  repeat walk_at "m"
  refine callc (k := 1) (numbered_spec (nu := nu) (ms := []) (upd_same _ _ _) (fun c hc' => by cases hc') (by simp)) (by decide) ?_
  rintro _ _ ⟨D3, rfl, hD3, rfl⟩
  repeat walk_at "m"
  generalize hσ3 : upd (upd (upd σ2 D1 _) D2 _) D3 _ = σ3
  have e3 : Ext σ2 σ3 := by rw [← hσ3]; exact Ext.upd (Ext.upd (Ext.upd (Ext.refl _) hD1) hD2) hD3
  have ha3 := e3 _ _ ha2
  have hm3 := e3 _ _ hm2
  have hw3 := e3 _ _ hw2
  repeat walk_at "m"
  refine callc (k := 1) (raise_version_spec (r := wr) (by walk_at "hp")) (by decide) ?_
  rintro _ _ rfl
  repeat walk_at "m"
  exact ⟨σ3, e12.trans e3, rfl⟩
end
-- P27
section
variable {x : XX} {n : Nat} {σ : AH}
def mName (i : Nat) : Str := Str.ofString "M" ++ Str.ofString (toString (i : Int))
theorem mName_len {i : Nat} (h : i < 600) : (mName i).length ≤ 1000 := by
  have := dig_len ⟨i, h⟩
  rw [mName, str_len_app]
  have e : (Str.ofString "M").length = 1 := by decide
  simp only at this
  omega
theorem mName0 : Str.ofString "M0" = mName 0 := by decide +kernel
def one? : Option Addr → List Addr
  | none => []
  | some b => [b]
structure Mr (σ : AH) (num : Int) (nm : Str) (a : Addr) (r : MR) (kv : List (Str × Value)) (xs : List Addr) : Prop where
  at_ : Md σ a r
  num : r.number = num
  nm : r.nm = some nm
  cls : r.isClass = false
  out : r.outer = none
  att : r.attached = none
  nat : r.native = none
  kept : r.kept = none
  m : σ r.methods = some (.sdict kv)
  mxl : σ r.mixed = some (.list (xs.map .ref))
  ahl : σ r.ahead = some (.list (xs.map .ref))
def MRows (σ : AH) (kv : Nat → List (Str × Value)) : List (Addr × MR) → Prop
  | [] => True
  | (a, r) :: rest => Mr σ (7 + rest.length) (mName rest.length) a r (kv rest.length) (one? (hd? rest)) ∧ (∀ p ∈ rest, p.1 ≠ a ∧ p.2.methods ≠ r.methods) ∧ MRows σ kv rest
theorem MRows.keep {σ σ' : AH} {kv : Nat → List (Str × Value)} (h1 : ∀ a r, Md σ a r → Md σ' a r) (h2 : ∀ b o, σ b = some o → o.kd ≠ 0 → σ' b = some o) : ∀ {cs : List (Addr × MR)}, MRows σ kv cs → MRows σ' kv cs
  | [], _ => trivial
  | (a, r) :: rest, h => by
    have c := h.1
    exact ⟨⟨h1 _ _ c.at_, c.num, c.nm, c.cls, c.out, c.att, c.nat, c.kept, h2 _ _ c.m (by simp [AO.kd]), h2 _ _ c.mxl (by simp [AO.kd]), h2 _ _ c.ahl (by simp [AO.kd])⟩, h.2.1, MRows.keep h1 h2 h.2.2⟩
theorem MRows.num {kv : Nat → List (Str × Value)} : ∀ {cs : List (Addr × MR)}, MRows σ kv cs → ∀ p ∈ cs, Md σ p.1 p.2 ∧ 7 ≤ p.2.number ∧ p.2.number < 7 + cs.length
  | [], _, _, h => by cases h
  | (a, r) :: rest, h, p, hp => by
    rcases List.mem_cons.mp hp with rfl | hp
    · have := h.1.num
      exact ⟨h.1.at_, by rw [this]; omega, by rw [this]; simp only [List.length_cons]; omega⟩
    · obtain ⟨h1, h2, h3⟩ := MRows.num h.2.2 p hp
      exact ⟨h1, h2, by simp only [List.length_cons]; omega⟩
theorem MRows.tb {kv : Nat → List (Str × Value)} : ∀ {cs : List (Addr × MR)}, MRows σ kv cs → ∀ a, a ∈ cs.map (·.1) → ∃ r, Tb (numOf σ) (mxOf σ) (ahOf σ) σ a r
  | [], _, _, h => by cases h
  | (b, r) :: rest, h, a, ha => by
    simp only [List.map_cons, List.mem_cons] at ha
    rcases ha with rfl | ha
    · exact ⟨r, Tb.of h.1.at_ h.1.mxl h.1.ahl⟩
    · exact MRows.tb h.2.2 a ha
/-- the walk down a row of modules -/
theorem go_rows {kv : Nat → List (Str × Value)} {T : Addr → Prop} : ∀ {cs : List (Addr × MR)}, MRows σ kv cs → (∀ p ∈ cs, T p.1) → ∀ {a : Addr} {r : MR} {rest : List (Addr × MR)}, cs = (a, r) :: rest → ∀ (kn : List (Int × Value)) (fd : List Addr) (stk : List (Addr × Bool)) (res : List Addr),
    (∀ p ∈ cs, (valueAt kn p.2.number).isSome = false) → kn.length + cs.length ≤ 1000 → fd.length + cs.length ≤ 1000 → stk.length + 2 * cs.length ≤ 1000 →
    (∀ kn' : List (Int × Value), (∀ p ∈ cs, (valueAt kn' p.2.number).isSome = true) → (∀ i, (valueAt kn i).isSome = true → (valueAt kn' i).isSome = true) → ∃ k, Go (numOf σ) (mxOf σ) (ahOf σ) T k kn' (fd ++ (cs.map (·.1)).reverse) stk res) →
    ∃ k, Go (numOf σ) (mxOf σ) (ahOf σ) T k kn fd (stk ++ [(a, false)]) res
  | [], _, _, _, _, _, e => by cases e
  | (a, r) :: rest, h, hT, _, _, _, e => by
    cases e
    intro kn fd stk res hkn z1 z2 z3 cont
    have c := h.1
    have en := numOf_md c.at_
    have ex := mx_md c.at_ c.mxl
    have ey := ah_md c.at_ c.ahl
    have hTa := hT (a, r) (by simp)
    have hka := hkn (a, r) (by simp)
    simp only [List.length_cons] at z1 z2 z3
    match rest, h, ex, ey with
    | [], h, ex, ey =>
      obtain ⟨k, hk⟩ := cont (stored kn (numOf σ a) (.bool true)) (fun p hp => by
        rw [List.mem_singleton.mp hp, valueAt_stored, if_pos en]; rfl) (fun i hi => by
        rw [valueAt_stored]; split <;> simp [hi])
      refine ⟨k + 2, Go.new hTa (by rw [← en]; exact hka) (by omega) ?_ ?_⟩
      · show stk.length + (mxOf σ a).length + (ahOf σ a).length ≤ 50000
        rw [show mxOf σ a = [] from ex, show ahOf σ a = [] from ey]; simp; omega
      · rw [show mxOf σ a = [] from ex, show ahOf σ a = [] from ey]
        simp only [List.map_nil, List.append_nil]
        exact Go.opened (by omega) (by simpa using hk)
    | (b, s) :: rest', h, ex, ey =>
      have ex : mxOf σ a = [b] := ex
      have ey : ahOf σ a = [b] := ey
      have cb := h.2.2.1
      have enb := numOf_md cb.at_
      have nab : ∀ p ∈ (b, s) :: rest', p.2.number ≠ r.number := fun p hp => by
        have := (h.2.2.num p hp).2.2
        rw [c.num]; omega
      simp only [List.length_cons] at z1 z2 z3
      obtain ⟨k, hk⟩ := go_rows h.2.2 (fun p hp => hT p (by simp only [List.mem_cons] at hp ⊢; exact .inr hp)) rfl (stored kn (numOf σ a) (.bool true)) fd (stk ++ [(b, false)] ++ [(a, true)]) res
        (fun p hp => by rw [valueAt_stored, if_neg (by rw [← en]; exact nab p hp)]; exact hkn p (by simp only [List.mem_cons] at hp ⊢; exact .inr hp))
        (by have := stored_len kn (numOf σ a) (.bool true); simp only [List.length_cons]; omega) (by simp only [List.length_cons]; omega) (by simp only [List.length_append, List.length_cons, List.length_nil]; omega)
        (fun kn' q1 q2 => by
          have q3 : (valueAt kn' r.number).isSome = true := q2 _ (by rw [valueAt_stored, if_pos en]; rfl)
          obtain ⟨k, hk⟩ := cont kn' (fun p hp => by
            rcases List.mem_cons.mp hp with rfl | hp
            · exact q3
            · exact q1 p hp) (fun i hi => q2 i (by rw [valueAt_stored]; split <;> simp [hi]))
          refine ⟨k + 2, Go.opened (by simp; omega) ?_⟩
          refine Go.seen (hT (b, s) (by simp)) (by rw [← enb]; exact q1 (b, s) (by simp)) ?_
          simpa using hk)
      refine ⟨k + 1, Go.new hTa (by rw [← en]; exact hka) (by omega) ?_ ?_⟩
      · rw [ex, ey]; simp; omega
      · rw [ex, ey]
        exact hk
end
-- P28
section
variable {x : XX} {n : Nat} {σ : AH}
structure LSt (σ : AH) (w rl O B C M K : Addr) (wr : WR) (kv : Nat → List (Str × Value)) (ms : List (Addr × MR)) : Prop where
  W : W5 (dels σ (rl :: ms.map (·.2.methods))) w wr O B C M K
  rows : MRows (del σ rl) kv ms
  last : wr.last = 6 + ms.length
  rl : σ rl = some (.list (ms.map fun p => Value.ref p.1).reverse)
/-- one new module on top: include and prepend the one below -/
theorem go_self {T : Addr → Prop} {z : Addr} {r : MR} (h : Md σ z r) (hx : σ r.mixed = some (.list [])) (hy : σ r.ahead = some (.list [])) (hT : T z) : Go (numOf σ) (mxOf σ) (ahOf σ) T 2 [] [] [(z, false)] [z] := by
  have e1 : mxOf σ z = [] := mx_md (l := []) h hx
  have e2 : ahOf σ z = [] := ah_md (l := []) h hy
  refine Go.new (stk := []) hT rfl (by simp) (by rw [e1, e2]; simp) ?_
  rw [e1, e2]
  exact Go.opened (stk := []) (by simp) Go.done
theorem go_row {kv : Nat → List (Str × Value)} {T : Addr → Prop} {a : Addr} {r : MR} {rest : List (Addr × MR)} (h : MRows σ kv ((a, r) :: rest)) (hT : ∀ p ∈ (a, r) :: rest, T p.1) (hz : rest.length ≤ 100) :
    ∃ k, Go (numOf σ) (mxOf σ) (ahOf σ) T k [] [] [(a, false)] (((a, r) :: rest).map (·.1)).reverse :=
  go_rows h hT rfl [] [] [] _ (fun _ _ => rfl) (by simp; omega) (by simp; omega) (by simp; omega) fun kn' _ _ => ⟨0, by rw [List.nil_append]; exact Go.done⟩
theorem go_top {kv : Nat → List (Str × Value)} {T : Addr → Prop} {a z : Addr} {r rz : MR} {rest : List (Addr × MR)} (h : MRows σ kv ((a, r) :: rest)) (hT : ∀ p ∈ (a, r) :: rest, T p.1) (hz : rest.length ≤ 100) (hzz : Md σ z rz) (hx : σ rz.mixed = some (.list [.ref a])) (hy : σ rz.ahead = some (.list [])) (hTz : T z)
    (hn : ∀ p ∈ (a, r) :: rest, p.2.number ≠ rz.number) : ∃ k, Go (numOf σ) (mxOf σ) (ahOf σ) T k [] [] [(z, false)] (z :: (((a, r) :: rest).map (·.1)).reverse) := by
  have e1 : mxOf σ z = [a] := mx_md (l := [a]) hzz hx
  have e2 : ahOf σ z = [] := ah_md (l := []) hzz hy
  obtain ⟨k, hk⟩ := go_rows h hT rfl (stored [] (numOf σ z) (.bool true)) [z] [] (z :: (((a, r) :: rest).map (·.1)).reverse) (fun p hp => by
      rw [valueAt_stored, if_neg (by rw [← numOf_md hzz]; exact hn p hp)]; rfl) (by have := stored_len ([] : List (Int × Value)) (numOf σ z) (.bool true); simp at this ⊢; omega) (by simp; omega) (by simp; omega)
    fun kn' _ _ => ⟨0, Go.done⟩
  refine ⟨k + 2, Go.new (stk := []) hTz rfl (by simp) (by rw [e1, e2]; simp) ?_⟩
  rw [e1, e2]
  exact Go.opened (stk := [(a, false)]) (by simp) hk
theorem MRows.meth {kv : Nat → List (Str × Value)} : ∀ {cs : List (Addr × MR)}, MRows σ kv cs → ∀ p ∈ cs, ∃ k, σ p.2.methods = some (.sdict k)
  | [], _, _, h => by cases h
  | (a, r) :: rest, h, p, hp => by
    rcases List.mem_cons.mp hp with rfl | hp
    · exact ⟨_, h.1.m⟩
    · exact MRows.meth h.2.2 p hp
theorem Bin.subInt {G : GX} {P : Value → AH → Prop} {i j t u} (h : P (.int (i - j) 0) σ) : Bin G n .Sub (.int i t) (.int j u) σ P := fun a' b' ea eb c m ex s Q E ok I kk => by
  obtain ⟨_, rfl⟩ := er_is_int ea
  obtain ⟨_, rfl⟩ := er_is_int eb
  exact sub_int (kk (.int (i - j) _) σ s.heap _ h I)
inductive LL1 (base : VM) (w rl O B C M K : Addr) (i : Nat) (vm : VM) (σ' : AH) : Prop
  | mk : (∀ y, (y == Str.ofString "k") = false → vm y = base y) → (ms : List (Addr × MR)) → (wr' : WR) → LSt σ' w rl O B C M K wr' (fun _ => []) ms → ms.length = i + 1 → LL1 base w rl O B C M K i vm σ'
theorem levels_rows {many at_ : Nat} {P : Flow → VM → AH → Prop} (hm : 1 ≤ many) (hm2 : many ≤ 30)
    (hP : ∀ w rl O B C M K wr ms vm σ', LSt σ' w rl O B C M K wr (fun _ => []) ms → ms.length = many →
      (∀ y, (y == Str.ofString "k") = false → vm y = (((argVM (gx x) (sf x 893) [(Str.ofString "levels", .int many 0), (Str.ofString "at", .int at_ 0)]).set (Str.ofString "world") (.ref w)).set (Str.ofString "rows") (.ref rl)) y) →
      WS (gx x) 16 (sf x 893) ((bf x 893).drop 3) vm σ' P) :
    WS (gx x) 16 (sf x 893) (bf x 893) (argVM (gx x) (sf x 893) [(Str.ofString "levels", .int many 0), (Str.ofString "at", .int at_ 0)]) σ P := by
  change WS _ _ _ (_ :: _) _ _ _
  repeat walk_at "m"
  refine WE.sdict fun N hN => ?_
  repeat walk_at "m"
  refine WE.sdict fun Pd hPd => ?_
  repeat walk_at "m"
  refine Bin.powI (by decide) (by decide) (by decide) ?_
  repeat walk_at "m"
  refine (new_World (by walk_at "hp") (by walk_at "hp")).le (by decide) |>.mono ?_
  rintro _ σ1 ⟨w, wr, O, B, C, M, K, rfl, W, hl, hv, e1, fw⟩
  have w1 := W.at_
  have d1 := W.made
  repeat walk_at "m"
  refine callc (k := 5) (new_module3 (nm := some (Str.ofString "M0")) w1 d1 (kv5_C O B C M K) (kv5_M O B C M K)) (by decide) ?_
  rintro _ σ2 ⟨z, f, m0, c0, xx, yy, rfl, N0⟩
  have k2 : ∀ b o, σ1 b = some o → b ≠ w → σ2 b = some o := fun b o hb hn => N0.ext b o (upd_at hn hb)
  have w2 := N0.ext _ _ (upd_same _ _ _)
  have fz := upd_nn N0.fz
  repeat walk_at "m"
  intro rl hrl
  repeat walk_at "m"
  have k5 : ∀ b o, σ2 b = some o → del (upd σ2 rl (.list [.ref z])) rl b = some o := fun b o hb => by
    have hn : b ≠ rl := fun e => by rw [e, hrl] at hb; cases hb
    exact del_of hn (upd_at hn hb)
  refine WSt.for_ (WIt.range2 ?_ (by kernel_rfl) (by walk_at "hs")) (by kernel_rfl) (by walk_at "hs2")
  iterate 1 walk_at "m"
  refine ⟨rfl, ?_⟩
  repeat walk_at "m"
  obtain ⟨m, rfl⟩ : ∃ m, many = m + 1 := ⟨many - 1, by omega⟩
  generalize hbase : (((argVM (gx x) (sf x 893) [(Str.ofString "levels", Value.int ((m + 1 : Nat) : Int) 0), (Str.ofString "at", Value.int at_ 0)]).set (Str.ofString "world") (.ref w)).set (Str.ofString "rows") (.ref rl)) = base at hP ⊢
  have b1 : base (Str.ofString "rows") = some (.ref rl) := by rw [← hbase]; walk_at "vm"
  have b2 : base (Str.ofString "world") = some (.ref w) := by rw [← hbase]; walk_at "vm"
  have b3 : base (Str.ofString "str") = some (.type "str") := by rw [← hbase]; walk_at "vm"
  have b4 : base (Str.ofString "include") = some (.ref 536) := by rw [← hbase]; walk_at "vm"
  have b5 : base (Str.ofString "prepend") = some (.ref 541) := by rw [← hbase]; walk_at "vm"
  refine ⟨1, (m + 1 : Nat), 0, 0, m, rfl, by omega, by decide, by omega, Turns.of (LL1 base w rl O B C M K) ⟨fun _ _ => rfl, [(z, ⟨wr.last + 1, some M, f, none, some (Str.ofString "M0"), false, none, none, m0, c0, xx, yy, none, none, none⟩)], { wr with last := wr.last + 1 }, ⟨?_, ?_, ?_, ?_⟩, rfl⟩ (fun _ _ _ _ => trivial) ?_ ?_⟩
  · have hmn : ∀ b, (∃ o, σ1 b = some o) → b ∉ [rl, m0] := fun b hb hm => by
      obtain ⟨o, hb⟩ := hb
      simp only [List.mem_cons, List.not_mem_nil, or_false] at hm
      rcases hm with rfl | rfl
      · rw [upd_nn (Ext.none N0.ext hrl)] at hb; cases hb
      · have := upd_nn N0.fm
        rw [show σ1 b = none from this] at hb; cases hb
    exact W.keep (dels_of (hmn _ ⟨_, w1⟩) (upd_old hrl w2)) ⟨rfl, rfl, rfl⟩ fun b o hb hn => dels_of (hmn _ ⟨_, hb⟩) (upd_old hrl (k2 _ _ hb hn))
  · refine ⟨⟨k5 _ _ N0.at_, ?_, by rw [mName0]; rfl, rfl, rfl, rfl, rfl, rfl, k5 _ _ N0.m, k5 _ _ N0.xs, k5 _ _ N0.ys⟩, fun p hp => (by cases hp), trivial⟩
    show wr.last + 1 = 7 + 0
    omega
  · show wr.last + 1 = 6 + 1
    omega
  · exact upd_same _ _ _
  · rintro i y vm σ' hy ⟨g, ms, wr', S, hlen⟩
    obtain ⟨hi, rfl⟩ : i < m ∧ y = .int (1 + i) 0 := by
      have h1 := List.getElem?_eq_some_iff.mp hy
      obtain ⟨h1, h2⟩ := h1
      rw [rangeL_length] at h1
      refine ⟨h1, ?_⟩
      rw [← h2]
      simp [rangeL]
    have v1 : vm (Str.ofString "rows") = some (.ref rl) := (g _ (by decide)).trans b1
    have v2 : vm (Str.ofString "world") = some (.ref w) := (g _ (by decide)).trans b2
    have v3 : vm (Str.ofString "str") = some (.type "str") := (g _ (by decide)).trans b3
    have v4 : vm (Str.ofString "include") = some (.ref 536) := (g _ (by decide)).trans b4
    have v5 : vm (Str.ofString "prepend") = some (.ref 541) := (g _ (by decide)).trans b5
    have w3 := (dels_at S.W.at_).2
    have d3 := (dels_at S.W.made).2
    have rl3 := S.rl
    cases ms with
    | nil => simp at hlen
    | cons p ms =>
    obtain ⟨a, ra⟩ := p
    repeat walk_at "m"
    refine WCall.strInt (Nat.lt_of_le_of_lt (Nat.log2_le_self _) (by omega)) ?_
    repeat walk_at "m"
    have hcn : Str.ofString "M" ++ Str.ofString (toString (1 + (i : Int))) = mName ((a, ra) :: ms).length := by
      rw [mName, hlen]; congr 3; omega
    refine Bin.addStr (by have := mName_len (i := ((a, ra) :: ms).length) (by omega); rw [← hcn, str_len_app] at this; omega) ?_
    rw [hcn]
    repeat walk_at "m"
    refine callc (k := 5) (new_module3 (nm := some (mName ((a, ra) :: ms).length)) w3 d3 (kv5_C O B C M K) (kv5_M O B C M K)) (by decide) ?_
    rintro _ σ3 ⟨z0, f0, m0', c0', xx0, yy0, rfl, N0'⟩
    have nrw : rl ≠ w := ne_kd rl3 w3 rfl
    have rl4 := N0'.ext _ _ (upd_at nrw rl3)
    have hlz : (((a, ra) :: ms).map fun p => Value.ref p.1).reverse.length ≤ 100000 := by simp at hlen ⊢; omega
    repeat walk_at "m"
    have fzz := upd_nn N0'.fz
    have fmm : σ' m0' = none := upd_nn N0'.fm
    have fxx : σ' xx0 = none := upd_nn N0'.fx
    have fyy : σ' yy0 = none := upd_nn N0'.fa
    have nz0 : z0 ≠ rl := fun e => by rw [e, rl3] at fzz; cases fzz
    have nm0 : m0' ≠ rl := fun e => by rw [e, rl3] at fmm; cases fmm
    have nx0 : xx0 ≠ rl := fun e => by rw [e, rl3] at fxx; cases fxx
    have ny0 : yy0 ≠ rl := fun e => by rw [e, rl3] at fyy; cases fyy
    have hl2 : wr'.last = 6 + (ms.length + 1) := by have := S.last; simpa using this
    have hlen2 : ms.length = i := by simpa using hlen
    generalize hold : (((a, ra) :: ms).map fun p => Value.ref p.1).reverse = old at rl3 rl4 hlz ⊢
    have holdl : old.length = i + 1 := by rw [← hold]; simp [hlen2]
    have hia : old[i]? = some (.ref a) := by rw [← hold]; simp [← hlen2]
    have hi1 : (old ++ [Value.ref z0])[((1 : Int) + (i : Int)).toNat]? = some (.ref z0) := by
      rw [show ((1 : Int) + (i : Int)).toNat = old.length by omega]; simp
    have hi2 : (old ++ [Value.ref z0])[((1 : Int) + (i : Int) - 1).toNat]? = some (.ref a) := by
      rw [show ((1 : Int) + (i : Int) - 1).toNat = i by omega, List.getElem?_append_left (by omega)]; exact hia
    have rlA : (upd σ3 rl (.list (old ++ [.ref z0]))) rl = some (.list (old ++ [.ref z0])) := upd_same _ _ _
    have w4 : (upd σ3 rl (.list (old ++ [.ref z0]))) w = some (.inst 870 ({ wr' with last := wr'.last + 1 } : WR).fs) := upd_at nrw.symm (N0'.ext _ _ (upd_same _ _ _))
    have hF4 : ∀ b o, σ' b = some o → b ≠ w → b ≠ rl → (upd σ3 rl (.list (old ++ [.ref z0]))) b = some o := fun b o hb h1 h2 => upd_at h2 (N0'.ext _ _ (upd_at h1 hb))
    have z4 := upd_at (o := .list (old ++ [.ref z0])) nz0 N0'.at_
    have m4 := upd_at (o := .list (old ++ [.ref z0])) nm0 N0'.m
    have x4 := upd_at (o := .list (old ++ [.ref z0])) nx0 N0'.xs
    have y4 := upd_at (o := .list (old ++ [.ref z0])) ny0 N0'.ys
    generalize upd σ3 rl (.list (old ++ [.ref z0])) = σ4 at rlA w4 hF4 z4 m4 x4 y4 ⊢
    have frame : ∀ {τ : AH}, (∀ b o, σ' b = some o → b ≠ w → b ≠ rl → τ b = some o) → MRows τ (fun _ => []) ((a, ra) :: ms) := fun {τ} h => S.rows.keep (fun b q hb => by
        obtain ⟨h1, h2⟩ := del_at hb
        exact h b _ h2 (ne_mw h2 w3) h1) (fun b o hb ho => by
        obtain ⟨h1, h2⟩ := del_at hb
        exact h b o h2 (fun e => by rw [e, w3] at h2; cases h2; exact ho rfl) h1)
    have R4 := frame hF4
    have hnn : ∀ p ∈ (a, ra) :: ms, p.2.number ≠ wr'.last + 1 := fun p hp => by
      have := (R4.num p hp).2.2
      simp at this
      omega
    have hNs : ∀ {τ : AH}, MRows τ (fun _ => []) ((a, ra) :: ms) → Ns (numOf τ) τ (((a, ra) :: ms).map (·.1)).reverse ∧ ∀ c ∈ (((a, ra) :: ms).map (·.1)).reverse, numOf τ c ≠ wr'.last + 1 := fun {τ} h => by
      refine ⟨fun c hc => ?_, fun c hc => ?_⟩
      · obtain ⟨p, hp, rfl⟩ := List.mem_map.mp (List.mem_reverse.mp hc)
        exact ⟨p.2, (h.num p hp).1, numOf_md (h.num p hp).1⟩
      · obtain ⟨p, hp, rfl⟩ := List.mem_map.mp (List.mem_reverse.mp hc)
        rw [← numOf_md (h.num p hp).1]; exact hnn p hp
    have hTT : ∀ p ∈ (a, ra) :: ms, p.1 = z0 ∨ p.1 ∈ ((a, ra) :: ms).map (·.1) := fun p hp => .inr (List.mem_map.mpr ⟨p, hp, rfl⟩)
    obtain ⟨kk, hg⟩ := go_row (T := fun c => c = z0 ∨ c ∈ ((a, ra) :: ms).map (·.1)) R4 hTT (by omega)
    refine SubP.list rlA (by omega) (by omega) hi1 ?_
    repeat walk_at "m"
    refine Bin.subInt ?_
    refine SubP.list rlA (by omega) (by omega) hi2 ?_
    repeat walk_at "m"
    refine callc (k := 5) (include_spec (nu := numOf σ4) (mx := mxOf σ4) (ah := ahOf σ4) (T := fun c => c = z0 ∨ c ∈ ((a, ra) :: ms).map (·.1)) w4 z4 rfl R4.1.at_ R4.1.cls ?_ hg (hNs R4).1 (hNs R4).2 (go_self z4 x4 y4 (.inl rfl)) (numOf_md z4) (fun e => hnn (a, ra) (by simp) e.symm) x4) (by decide) ?_
    · rintro c (rfl | hc)
      · exact ⟨_, Tb.of (l := []) (l' := []) z4 x4 y4⟩
      · exact R4.tb c hc
    rintro _ σ6 ⟨σ5, e5, hσ6⟩
    have nxw : xx0 ≠ w := ne_kd x4 w4 rfl
    have w6 : σ6 w = some (.inst 870 ({ ({ wr' with last := wr'.last + 1 } : WR) with version := wr'.version + 1 } : WR).fs) := by rw [hσ6]; exact upd_same _ _ _
    have hF6 : ∀ b o, σ4 b = some o → b ≠ w → b ≠ xx0 → σ6 b = some o := fun b o hb h1 h2 => by rw [hσ6]; exact upd_at h1 (upd_at h2 (e5 _ _ hb))
    have x6 : σ6 xx0 = some (.list [.ref a]) := by rw [hσ6]; exact upd_at nxw (upd_same _ _ _)
    clear hσ6
    have z6 := hF6 _ _ z4 (ne_mw z4 w4) (ne_kd z4 x4 rfl)
    have m6 := hF6 _ _ m4 (ne_kd m4 w4 rfl) (ne_kd m4 x4 rfl)
    have y6 := hF6 _ _ y4 (ne_kd y4 w4 rfl) N0'.xy.symm
    have rl6 := hF6 _ _ rlA nrw nx0.symm
    have hF06 : ∀ b o, σ' b = some o → b ≠ w → b ≠ rl → σ6 b = some o := fun b o hb h1 h2 => hF6 _ _ (hF4 _ _ hb h1 h2) h1 (fun e => by rw [e, fxx] at hb; cases hb)
    have R6 := frame hF06
    obtain ⟨kk2, hg2⟩ := go_row (T := fun c => c = z0 ∨ c ∈ ((a, ra) :: ms).map (·.1)) R6 hTT (by omega)
    obtain ⟨kk3, hg3⟩ := go_top (T := fun c => c = z0 ∨ c ∈ ((a, ra) :: ms).map (·.1)) R6 hTT (by omega) z6 x6 y6 (.inl rfl) hnn
    repeat walk_at "m"
    refine SubP.list rl6 (by omega) (by omega) hi1 ?_
    repeat walk_at "m"
    refine Bin.subInt ?_
    refine SubP.list rl6 (by omega) (by omega) hi2 ?_
    repeat walk_at "m"
    refine callc (k := 5) (prepend_spec (nu := numOf σ6) (mx := mxOf σ6) (ah := ahOf σ6) (T := fun c => c = z0 ∨ c ∈ ((a, ra) :: ms).map (·.1)) w6 z6 rfl R6.1.at_ R6.1.cls ?_ hg2 (hNs R6).1 (hNs R6).2 hg3 (numOf_md z6) (by simp; omega) y6) (by decide) ?_
    · rintro c (rfl | hc)
      · exact ⟨_, Tb.of (l := [a]) (l' := []) z6 x6 y6⟩
      · exact R6.tb c hc
    rintro _ σ8 ⟨σ7, e7, hσ8⟩
    have nyw : yy0 ≠ w := ne_kd y4 w4 rfl
    have w8 : σ8 w = some (.inst 870 ({ ({ ({ wr' with last := wr'.last + 1 } : WR) with version := wr'.version + 1 } : WR) with version := wr'.version + 1 + 1 } : WR).fs) := by rw [hσ8]; exact upd_same _ _ _
    have hF8 : ∀ b o, σ6 b = some o → b ≠ w → b ≠ yy0 → σ8 b = some o := fun b o hb h1 h2 => by rw [hσ8]; exact upd_at h1 (upd_at h2 (e7 _ _ hb))
    have y8 : σ8 yy0 = some (.list [.ref a]) := by rw [hσ8]; exact upd_at nyw (upd_same _ _ _)
    clear hσ8
    have z8 := hF8 _ _ z6 (ne_mw z6 w6) (ne_kd z6 y6 rfl)
    have m8 := hF8 _ _ m6 (ne_kd m6 w6 rfl) (ne_kd m6 y6 rfl)
    have x8 := hF8 _ _ x6 (ne_kd x6 w6 rfl) N0'.xy
    have rl8 := hF8 _ _ rl6 nrw ny0.symm
    have hF08 : ∀ b o, σ' b = some o → b ≠ w → b ≠ rl → σ8 b = some o := fun b o hb h1 h2 => hF8 _ _ (hF06 _ _ hb h1 h2) h1 (fun e => by rw [e, fyy] at hb; cases hb)
    repeat walk_at "m"
    refine ⟨vset_other g, (z0, ⟨wr'.last + 1, some M, f0, none, some (mName ((a, ra) :: ms).length), false, none, none, m0', c0', xx0, yy0, none, none, none⟩) :: (a, ra) :: ms, { wr' with last := wr'.last + 1, version := wr'.version + 1 + 1 }, ⟨?_, ?_, ?_, ?_⟩, by simp [hlen2]⟩
    · have hx : ∀ b o, (dels σ' (rl :: ((a, ra) :: ms).map (·.2.methods))) b = some o → b ∉ rl :: m0' :: ((a, ra) :: ms).map (·.2.methods) := fun b o hb hm => by
        obtain ⟨hb1, hb2⟩ := dels_at hb
        simp only [List.mem_cons, not_or] at hb1 hm
        rcases hm with hm | hm | hm
        · exact hb1.1 hm
        · rw [hm, fmm] at hb2; cases hb2
        · exact hb1.2 hm
      exact S.W.keep (dels_of (hx _ _ S.W.at_) w8) ⟨rfl, rfl, rfl⟩ fun b o hb hn => dels_of (hx _ _ hb) (hF08 _ _ (dels_at hb).2 hn (fun e => (dels_at hb).1 (by simp [e])))
    · refine ⟨⟨del_of nz0 z8, ?_, rfl, rfl, rfl, rfl, rfl, rfl, del_of nm0 m8, del_of nx0 x8, del_of ny0 y8⟩, fun p hp => ?_, ?_⟩
      · show wr'.last + 1 = 7 + (((a, ra) :: ms).length : Int)
        simp; omega
      · obtain ⟨h1, _⟩ := S.rows.num p hp
        refine ⟨fun e => ?_, fun e => ?_⟩
        · have h2 := (del_at h1).2
          rw [e] at h2
          exact absurd (fzz.symm.trans h2) (by simp)
        · obtain ⟨k9, h9⟩ := MRows.meth S.rows p hp
          have h2 := (del_at h9).2
          rw [e] at h2
          exact absurd (fmm.symm.trans h2) (by simp)
      · exact S.rows.keep (fun b q hb => by
          obtain ⟨h1, h2⟩ := del_at hb
          exact del_of h1 (hF08 b _ h2 (ne_mw h2 w3) h1)) (fun b o hb ho => by
          obtain ⟨h1, h2⟩ := del_at hb
          exact del_of h1 (hF08 b o h2 (fun e => by rw [e, w3] at h2; cases h2; exact ho rfl) h1))
    · show wr'.last + 1 = 6 + _
      simp; omega
    · rw [rl8, ← hold]; simp
  · rintro vm σ' ⟨g, ms, wr', S, hlen⟩
    rw [rangeL_length] at hlen
    exact hP w rl O B C M K wr' ms vm σ' S hlen (by rw [hbase]; exact g)
end
-- P29
section
variable {x : XX} {n : Nat} {σ : AH}
theorem go_O' {T : Addr → Prop} {O K : Addr} (hO : T O) (hK : T K) (h1 : mxOf σ O = [K]) (h2 : ahOf σ O = []) (h3 : mxOf σ K = []) (h4 : ahOf σ K = []) (hn : numOf σ O ≠ numOf σ K) : Go (numOf σ) (mxOf σ) (ahOf σ) T 4 [] [] [(O, false)] [O, K] := by
  refine Go.new (stk := []) hO rfl (by simp) (by rw [h1, h2]; simp) ?_
  rw [h1, h2]
  refine Go.opened (stk := [(K, false)]) (by simp) ?_
  refine Go.new (stk := []) hK ?_ ?_ (by rw [h3, h4]; simp) ?_
  · rw [valueAt_stored, if_neg hn.symm]; rfl
  · exact Nat.le_trans (stored_len _ _ _) (by simp)
  rw [h3, h4]
  refine Go.opened (stk := []) (by simp) ?_
  exact Go.done
/-- the line of the heir above a row of modules -/
theorem levels_line {w O B C M K h a : Addr} {ro rb rk rh ra : MR} {wr : WR} {kv : Nat → List (Str × Value)} {rest : List (Addr × MR)} (hw : σ w = some (.inst 870 wr.fs)) (hb : Base σ O B C M K ro rb rk) (hso : Stale σ wr.version ro.kept) (hsb : Stale σ wr.version rb.kept) (hsh : Stale σ wr.version rh.kept)
    (R : MRows σ kv ((a, ra) :: rest)) (hh : Md σ h rh) (hpa : rh.parent = some O) (hx : σ rh.mixed = some (.list [.ref a])) (hy : σ rh.ahead = some (.list [])) (hn : rh.number = 7 + ((a, ra) :: rest).length) (hz : rest.length ≤ 100) :
    WCode (gx x) 5 410 [.ref w, .ref h] σ fun v σ' => ∃ D, v = .ref D ∧ σ D = none ∧ σ' D = some (.list ((h :: ((((a, ra) :: rest).map (·.1)).reverse ++ [O, K, B])).map .ref)) ∧ Lo [h, O, B] wr.version σ σ' ∧
      ∃ t, Md σ' h { rh with kept := some t } ∧ σ' t = some (.tup [.int wr.version 0, .ref D]) := by
  have hnum := R.num
  have nhO : h ≠ O := ne_num hh hb.o (by rw [hn, hb.ono]; omega)
  have nhB : h ≠ B := ne_num hh hb.b (by rw [hn, hb.bno]; omega)
  have nOB : O ≠ B := ne_num hb.o hb.b (by rw [hb.ono, hb.bno]; decide)
  have eO1 : mxOf σ O = [K] := mx_md (l := [K]) hb.o hb.ox
  have eO2 : ahOf σ O = [] := ah_md (l := []) hb.o hb.oy
  have eK1 : mxOf σ K = [] := mx_md (l := []) hb.k hb.kx
  have eK2 : ahOf σ K = [] := ah_md (l := []) hb.k hb.ky
  have eB1 : mxOf σ B = [] := mx_md (l := []) hb.b hb.bx
  have eB2 : ahOf σ B = [] := ah_md (l := []) hb.b hb.bY
  have eh1 : mxOf σ h = [a] := mx_md (l := [a]) hh hx
  have eh2 : ahOf σ h = [] := ah_md (l := []) hh hy
  have n1 := numOf_md hb.o
  have n2 := numOf_md hb.b
  have n3 := numOf_md hb.k
  have n4 := numOf_md hh
  rw [hb.ono] at n1
  rw [hb.bno] at n2
  rw [hb.kno] at n3
  rw [hn] at n4
  have hTm : ∀ p ∈ (a, ra) :: rest, p.1 = h ∨ p.1 ∈ ((a, ra) :: rest).map (·.1) ∨ p.1 = O ∨ p.1 = K := fun p hp => .inr (.inl (List.mem_map.mpr ⟨p, hp, rfl⟩))
  obtain ⟨kk, hg⟩ := go_top (T := fun c => c = h ∨ c ∈ ((a, ra) :: rest).map (·.1) ∨ c = O ∨ c = K) R hTm hz hh hx hy (.inl rfl) (fun p hp => by
    have := (hnum p hp).2.2
    rw [hn]; omega)
  have ow1 : (fun c => if c = h then h :: (((a, ra) :: rest).map (·.1)).reverse else if c = O then [O, K] else [c]) h = h :: (((a, ra) :: rest).map (·.1)).reverse := if_pos rfl
  have ow2 : (fun c => if c = h then h :: (((a, ra) :: rest).map (·.1)).reverse else if c = O then [O, K] else [c]) O = [O, K] := by simp [nhO.symm]
  have ow3 : (fun c => if c = h then h :: (((a, ra) :: rest).map (·.1)).reverse else if c = O then [O, K] else [c]) B = [B] := by simp [nhB.symm, nOB.symm]
  generalize (fun c => if c = h then h :: (((a, ra) :: rest).map (·.1)).reverse else if c = O then [O, K] else [c]) = ow at ow1 ow2 ow3
  have hl1 : lines ow [(B, rb)] = [B] := by simp [lines, ow3]
  have hl2 : lines ow [(O, ro), (B, rb)] = [O, K, B] := by simp [lines, ow2, ow3]
  have hl3 : lines ow [(h, rh), (O, ro), (B, rb)] = h :: ((((a, ra) :: rest).map (·.1)).reverse ++ [O, K, B]) := by simp [lines, ow1, ow2, ow3]
  have hrn : ∀ c ∈ (((a, ra) :: rest).map (·.1)).reverse, ∃ q, Md σ c q ∧ q.number = numOf σ c ∧ 7 ≤ numOf σ c := fun c hc => by
    obtain ⟨p, hp, rfl⟩ := List.mem_map.mp (List.mem_reverse.mp hc)
    obtain ⟨g1, g2, _⟩ := hnum p hp
    exact ⟨p.2, g1, numOf_md g1, by rw [← numOf_md g1]; exact g2⟩
  have := line_of_stale (x := x) (nu := numOf σ) (mx := mxOf σ) (ah := ahOf σ) (T := fun c => c = h ∨ c ∈ ((a, ra) :: rest).map (·.1) ∨ c = O ∨ c = K) (ow := ow) (ch := [(h, rh), (O, ro), (B, rb)]) hw ?_ ?_ ?_ ?_ (by simp) ?_
  · rw [hl3] at this
    refine this.mono ?_
    rintro v σ' ⟨D, q1, q2, q3, q4, q5⟩
    exact ⟨D, q1, q2, q3, q4, q5 h rh _ rfl⟩
  · rintro c (rfl | hc | rfl | rfl)
    · exact ⟨rh, Tb.of (l := [a]) (l' := []) hh hx hy⟩
    · exact R.tb c hc
    · exact ⟨ro, Tb.of (l := [K]) (l' := []) hb.o hb.ox hb.oy⟩
    · exact ⟨rk, Tb.of (l := []) (l' := []) hb.k hb.kx hb.ky⟩
  · intro pre c r rest' e
    match pre, e with
    | [], e =>
      cases e
      refine ⟨Tb.of (l := [a]) (l' := []) hh hx hy, hsh, by rw [hpa]; rfl, ⟨eh2, .inr ⟨by rw [eh1]; simp, kk, by rw [ow1]; exact hg⟩⟩, fun _ c hc b hbb => ?_⟩
      rw [ow1] at hc
      rw [hl2] at hbb
      have hb6 : numOf σ b ≤ 6 := by
        simp only [List.mem_cons, List.not_mem_nil, or_false] at hbb
        rcases hbb with rfl | rfl | rfl
        · rw [← n1]; decide
        · rw [← n3]; decide
        · rw [← n2]; decide
      rcases List.mem_cons.mp hc with rfl | hc
      · rw [← n4]; omega
      · obtain ⟨_, _, _, g⟩ := hrn c hc
        omega
    | [_], e =>
      cases e
      refine ⟨Tb.of (l := [K]) (l' := []) hb.o hb.ox hb.oy, hso, hb.op, ⟨eO2, .inr ⟨by rw [eO1]; simp, 4, by rw [ow2]; exact go_O' (.inr (.inr (.inl rfl))) (.inr (.inr (.inr rfl))) eO1 eO2 eK1 eK2 (by rw [← n1, ← n3]; decide)⟩⟩, fun _ c hc b hbb => ?_⟩
      rw [ow2] at hc
      rw [hl1] at hbb
      simp only [List.mem_cons, List.not_mem_nil, or_false] at hc hbb
      subst hbb
      rcases hc with rfl | rfl
      · rw [← n1, ← n2]; decide
      · rw [← n3, ← n2]; decide
    | [_, _], e =>
      cases e
      exact ⟨Tb.of (l := []) (l' := []) hb.b hb.bx hb.bY, hsb, hb.bp, ⟨eB2, .inl ⟨eB1, ow3⟩⟩, fun q => absurd eB1 q⟩
    | _ :: _ :: _ :: pre, e => simp at e
  · rw [hl3]
    intro c hc
    rcases List.mem_cons.mp hc with rfl | hc
    · exact ⟨rh, hh, numOf_md hh⟩
    · rcases List.mem_append.mp hc with hc | hc
      · obtain ⟨q, g1, g2, _⟩ := hrn c hc
        exact ⟨q, g1, g2⟩
      · simp only [List.mem_cons, List.not_mem_nil, or_false] at hc
        rcases hc with rfl | rfl | rfl
        · exact ⟨ro, hb.o, numOf_md hb.o⟩
        · exact ⟨rk, hb.k, numOf_md hb.k⟩
        · exact ⟨rb, hb.b, numOf_md hb.b⟩
  · simp [nhO, nhB, nOB]
  · rw [hl3]; simp; omega
end
-- P30
section
variable {x : XX} {n : Nat} {σ : AH}
theorem levels_heir {many at_ : Nat} {P : Flow → VM → AH → Prop} {w rl O B C M K : Addr} {wr : WR} {ms : List (Addr × MR)} {vm : VM} (S : LSt σ w rl O B C M K wr (fun _ => []) ms) (hlen : ms.length = many) (hm : 1 ≤ many) (hm2 : many ≤ 30)
    (u1 : vm (Str.ofString "world") = some (.ref w)) (u2 : vm (Str.ofString "rows") = some (.ref rl)) (u3 : vm (Str.ofString "include") = some (.ref 536))
    (hP : ∀ h a ra rest rh wr' σ', ms = (a, ra) :: rest → W5 (dels σ' (ms.map (·.2.methods))) w wr' O B C M K → MRows σ' (fun _ => []) ms → σ' rl = some (.list (ms.map fun p => Value.ref p.1).reverse) → Md σ' h rh → rh.number = 7 + ms.length → rh.nm = some (Str.ofString "C") → rh.outer = none → rh.attached = none → rh.native = none → rh.kept = none → rh.parent = some O →
      σ' rh.mixed = some (.list [.ref a]) → σ' rh.ahead = some (.list []) → σ' rh.methods = some (.sdict []) → (∀ p ∈ ms, p.2.methods ≠ rh.methods) → WS (gx x) 16 (sf x 893) ((bf x 893).drop 5) (vm.set (Str.ofString "heir") (.ref h)) σ' P) : WS (gx x) 16 (sf x 893) ((bf x 893).drop 3) vm σ P := by
  have w0 := (dels_at S.W.at_).2
  have d0 := (dels_at S.W.made).2
  have rl0 := S.rl
  cases ms with
  | nil => simp at hlen; omega
  | cons p rest =>
  obtain ⟨a, ra⟩ := p
  change WS _ _ _ (_ :: _) _ _ _
  repeat walk_at "m"
  refine callc (k := 1) (builtin_spec w0 d0 (kv5_O O B C M K)) (by decide) ?_
  rintro _ _ ⟨rfl, rfl⟩
  repeat walk_at "m"
  refine callc (k := 5) (new_module4 (nm := some (Str.ofString "C")) w0 d0 (kv5_C O B C M K) (kv5_M O B C M K)) (by decide) ?_
  rintro _ σ1 ⟨h, f, m0, c0, xx, yy, rfl, N⟩
  have fz := upd_nn N.fz
  have fm := upd_nn N.fm
  have fx := upd_nn N.fx
  have fy := upd_nn N.fa
  have hF : ∀ b o, σ b = some o → b ≠ w → σ1 b = some o := fun b o hb hn => N.ext _ _ (upd_at hn hb)
  have nrw : rl ≠ w := ne_kd rl0 w0 rfl
  have rl1 := hF _ _ rl0 nrw
  have w1 := N.ext _ _ (upd_same _ _ _)
  have frame : ∀ {τ : AH}, (∀ b o, σ b = some o → b ≠ w → τ b = some o) → MRows τ (fun _ => []) ((a, ra) :: rest) := fun {τ} hτ => S.rows.keep (fun b q hb => by
      obtain ⟨h1, h2⟩ := del_at hb
      exact hτ b _ h2 (ne_mw h2 w0)) (fun b o hb ho => by
      obtain ⟨h1, h2⟩ := del_at hb
      exact hτ b o h2 (fun e => by rw [e, w0] at h2; cases h2; exact ho rfl))
  have R1 := frame hF
  have hl := S.last
  simp only [List.length_cons] at hl hlen
  have hnn : ∀ p ∈ (a, ra) :: rest, p.2.number ≠ wr.last + 1 := fun p hp => by
    have := (R1.num p hp).2.2
    simp at this
    omega
  have hNs : Ns (numOf σ1) σ1 (((a, ra) :: rest).map (·.1)).reverse ∧ ∀ c ∈ (((a, ra) :: rest).map (·.1)).reverse, numOf σ1 c ≠ wr.last + 1 := by
    refine ⟨fun c hc => ?_, fun c hc => ?_⟩
    · obtain ⟨p, hp, rfl⟩ := List.mem_map.mp (List.mem_reverse.mp hc)
      exact ⟨p.2, (R1.num p hp).1, numOf_md (R1.num p hp).1⟩
    · obtain ⟨p, hp, rfl⟩ := List.mem_map.mp (List.mem_reverse.mp hc)
      rw [← numOf_md (R1.num p hp).1]; exact hnn p hp
  obtain ⟨kk, hg⟩ := go_row (T := fun c => c = h ∨ c ∈ ((a, ra) :: rest).map (·.1)) R1 (fun p hp => .inr (List.mem_map.mpr ⟨p, hp, rfl⟩)) (by omega)
  repeat walk_at "m"
  refine WE.neg (i := 1) (t := 0) ?_
  repeat walk_at "m"
  refine SubP.listNeg rl1 (by decide) (by decide) (head_idx (cs' := rest) (ah := a) (rh := ra)).2 (head_idx (cs' := rest) (ah := a) (rh := ra)).1 ?_
  repeat walk_at "m"
  refine callc (k := 5) (include_spec (nu := numOf σ1) (mx := mxOf σ1) (ah := ahOf σ1) (T := fun c => c = h ∨ c ∈ ((a, ra) :: rest).map (·.1)) w1 N.at_ rfl R1.1.at_ R1.1.cls ?_ hg hNs.1 hNs.2 (go_self N.at_ N.xs N.ys (.inl rfl)) (numOf_md N.at_) (fun e => hnn (a, ra) (by simp) e.symm) N.xs) (by decide) ?_
  · rintro c (rfl | hc)
    · exact ⟨_, Tb.of (l := []) (l' := []) N.at_ N.xs N.ys⟩
    · exact R1.tb c hc
  rintro _ σ3 ⟨σ2, e2, hσ3⟩
  have xs1 := N.xs
  have ys1 := N.ys
  have ms1 := N.m
  have nxw : xx ≠ w := ne_kd xs1 w1 rfl
  have w3 : σ3 w = some (.inst 870 ({ ({ wr with last := wr.last + 1 } : WR) with version := wr.version + 1 } : WR).fs) := by rw [hσ3]; exact upd_same _ _ _
  have hF3 : ∀ b o, σ1 b = some o → b ≠ w → b ≠ xx → σ3 b = some o := fun b o hb h1 h2 => by rw [hσ3]; exact upd_at h1 (upd_at h2 (e2 _ _ hb))
  have x3 : σ3 xx = some (.list [.ref a]) := by rw [hσ3]; exact upd_at nxw (upd_same _ _ _)
  clear hσ3
  have hF03 : ∀ b o, σ b = some o → b ≠ w → σ3 b = some o := fun b o hb h1 => hF3 _ _ (hF _ _ hb h1) h1 (fun e => by rw [e, fx] at hb; cases hb)
  have R3 := frame hF03
  refine hP h a ra rest _ { wr with last := wr.last + 1, version := wr.version + 1 } σ3 rfl ?_ R3 (hF03 _ _ rl0 nrw) (hF3 _ _ N.at_ (ne_mw N.at_ w1) (ne_kd N.at_ xs1 rfl)) ?_ rfl rfl rfl rfl rfl rfl x3 (hF3 _ _ ys1 (ne_kd ys1 w1 rfl) N.xy.symm) (hF3 _ _ ms1 (ne_kd ms1 w1 rfl) (ne_kd ms1 xs1 rfl)) ?_
  · have hx : ∀ b o, (dels σ (rl :: ((a, ra) :: rest).map (·.2.methods))) b = some o → b ∉ ((a, ra) :: rest).map (·.2.methods) ∧ σ b = some o := fun b o hb => by
      obtain ⟨h1, h2⟩ := dels_at hb
      exact ⟨fun hm => h1 (List.mem_cons_of_mem _ hm), h2⟩
    exact S.W.keep (dels_of (hx _ _ S.W.at_).1 w3) ⟨rfl, rfl, rfl⟩ fun b o hb hn => dels_of (hx _ _ hb).1 (hF03 _ _ (hx _ _ hb).2 hn)
  · show wr.last + 1 = 7 + (((a, ra) :: rest).length : Int)
    simp; omega
  · intro p hp e
    obtain ⟨k9, h9⟩ := MRows.meth S.rows p hp
    have h2 := (del_at h9).2
    rw [e] at h2
    exact absurd (fm.symm.trans h2) (by simp)
end
-- P31
section
variable {x : XX} {n : Nat} {σ : AH}
theorem rdds_strs : ∀ l : List Str, RdDs σ (l.map fun s => Value.str s 0) (l.map .str)
  | [] => .nil
  | s :: l => .cons (.str _ _) (rdds_strs l)
theorem lay_strs : ∀ l : List Str, (∀ s ∈ l, PyData.strOk s = true) → (PyData.list (l.map .str)).canLay0 = true := fun l h => by
  rw [PyData.canLay0]
  induction l with
  | nil => rfl
  | cons s l ih =>
    rw [List.map_cons, PyData.canLayAll0, PyData.canLay0, h s (by simp), ih fun t ht => h t (by simp [ht])]; rfl
theorem mname_ok' : ∀ i : Fin 600, PyData.strOk (mName i) = true := by decide +kernel
theorem mName_ok {i : Nat} (h : i < 600) : PyData.strOk (mName i) = true := mname_ok' ⟨i, h⟩
def lvNames (many : Nat) : List Str := Str.ofString "C" :: ((List.range many).map mName ++ [sO, sK, sB])
theorem lvNames_ok {many : Nat} (h : many ≤ 30) : ∀ s ∈ lvNames many, PyData.strOk s = true := by
  intro s hs
  simp only [lvNames, List.mem_cons, List.mem_append, List.mem_map, List.mem_range, List.not_mem_nil, or_false] at hs
  rcases hs with rfl | ⟨i, hi, rfl⟩ | rfl | rfl | rfl
  · decide +kernel
  · exact mName_ok (by omega)
  · decide +kernel
  · decide +kernel
  · decide +kernel
theorem lvNames_len (many : Nat) : (lvNames many).length = many + 4 := by simp [lvNames]
theorem levels_names {many at_ : Nat} {P : Flow → VM → AH → Prop} {vm : VM} (hm2 : many ≤ 30) (u1 : vm (Str.ofString "levels") = some (.int many 0)) (u2 : vm (Str.ofString "range") = some (.type "range"))
    (hP : ∀ nl σ', Ext σ σ' → σ' nl = some (.list ((lvNames many).map fun s => .str s 0)) → WS (gx x) 16 (sf x 893) ((bf x 893).drop 6) (vm.set (Str.ofString "names") (.ref nl)) σ' P) : WS (gx x) 16 (sf x 893) ((bf x 893).drop 5) vm σ P := by
  change WS _ _ _ (_ :: _) _ _ _
  repeat walk_at "m"
  intro D1 hD1
  repeat walk_at "m"
  refine WE.listComp [] ⟨by kernel_rfl⟩ (by intro y hy; cases hy) (WIt.range1 ?_ (by kernel_rfl) (by walk_at "hs")) (by walk_at "hs2")
  iterate 1 walk_at "m"
  refine ⟨rfl, ?_⟩
  repeat walk_at "m"
  refine ⟨many, 0, many, rfl, rfl, by omega, by rw [rangeL_length]; omega, fun k ys σ' => upd σ D1 (.list [.str (Str.ofString "C") 0]) = σ' ∧ ys = ((List.range k).map mName).map (fun s => .str s 0), ⟨rfl, rfl⟩, fun _ _ _ _ => trivial, ?_, ?_⟩
  · rintro k y ys σ' hy ⟨rfl, rfl⟩
    obtain ⟨hi, rfl⟩ : k < many ∧ y = .int (0 + k) 0 := by
      have h1 := List.getElem?_eq_some_iff.mp hy
      obtain ⟨h1, h2⟩ := h1
      rw [rangeL_length] at h1
      refine ⟨h1, ?_⟩
      rw [← h2]
      simp [rangeL]
    repeat walk_at "m"
    refine WCall.strInt (Nat.lt_of_le_of_lt (Nat.log2_le_self _) (by omega)) ?_
    repeat walk_at "m"
    have hcn : Str.ofString "M" ++ Str.ofString (toString (0 + (k : Int))) = mName k := by rw [mName]; congr 3; omega
    refine Bin.addStr (by have := mName_len (i := k) (by omega); rw [← hcn, str_len_app] at this; omega) ?_
    rw [hcn]
    exact ⟨rfl, by rw [List.range_succ]; simp⟩
  rintro ys σ' D2 ⟨rfl, rfl⟩ hD2
  rw [rangeL_length]
  refine Bin.addList (upd_old hD2 (upd_same _ _ _)) (upd_same _ _ _) (by simp; omega) fun D3 hD3 => ?_
  repeat walk_at "m"
  intro D4 hD4
  repeat walk_at "m"
  refine Bin.addList (upd_old hD4 (upd_same _ _ _)) (upd_same _ _ _) (by simp; omega) fun D5 hD5 => ?_
  refine hP D5 _ (Ext.upd (Ext.upd (Ext.upd (Ext.upd (Ext.upd (Ext.refl _) hD1) hD2) hD3) hD4) hD5) ?_
  rw [upd_same]
  simp [lvNames]
end
-- P32
section
variable {x : XX} {n : Nat} {σ : AH}
theorem Base.mono {σ' : AH} {O B C M K : Addr} {ro rb rk : MR} (h : Base σ O B C M K ro rb rk) (e : ∀ b o, σ b = some o → σ' b = some o) : Base σ' O B C M K ro rb rk :=
  ⟨e _ _ h.o, e _ _ h.b, e _ _ h.k, h.ono, h.bno, h.kno, h.op, h.bp, e _ _ h.ox, e _ _ h.oy, e _ _ h.bx, e _ _ h.bY, e _ _ h.kx, e _ _ h.ky⟩
theorem Bi.named {mk a ow : Addr} {num : Int} {nm : Str} {isC : Bool} {pa : Option Addr} {ms : List Addr} (h : Bi σ mk a num ow nm isC pa ms) : ∃ r, Md σ a r ∧ r.attached = none ∧ r.nm = some nm ∧ r.outer = none := by
  obtain ⟨f, m, c, xx, yy, h1, _⟩ := h.ex
  exact ⟨_, h1, rfl, rfl, rfl⟩
theorem MRows.idx {kv : Nat → List (Str × Value)} {ms : List (Addr × MR)} (h : MRows σ kv ms) {k : Nat} {c : Addr} (hk : ((ms.map (·.1)).reverse)[k]? = some c) : ∃ r xs, Mr σ (7 + k) (mName k) c r (kv k) xs := by
  have hlt : k < ms.length := by
    have := (List.getElem?_eq_some_iff.mp hk).1
    simpa using this
  obtain ⟨pre, p, suf, e, hs⟩ := split_at hlt
  have h2 : ((ms.map (·.1)).reverse)[k]? = some p.1 := by rw [e, ← hs]; simp
  rw [hk] at h2
  cases h2
  have : ∀ {pre : List (Addr × MR)}, MRows σ kv (pre ++ p :: suf) → ∃ r xs, Mr σ (7 + k) (mName k) p.1 r (kv k) xs := fun {pre} h => by
    induction pre with
    | nil => subst hs; exact ⟨_, _, h.1⟩
    | cons q pre ih => exact ih h.2.2
  exact this (e ▸ h)
theorem levels_if {many : Nat} {P : Flow → VM → AH → Prop} {w O B C M K h a nl : Addr} {rh ra ro rb rk : MR} {wr : WR} {rest : List (Addr × MR)} {L : List Addr} {vm : VM} (W : W5 (dels σ L) w wr O B C M K) (hb : Base σ O B C M K ro rb rk) (ht : Top2 C K ro rb rk) (R : MRows σ (fun _ => []) ((a, ra) :: rest)) (hlen : ((a, ra) :: rest).length = many) (hm2 : many ≤ 30)
    (hh : Md σ h rh) (hn : rh.number = 7 + ((a, ra) :: rest).length) (hnm : rh.nm = some (Str.ofString "C")) (ho : rh.outer = none) (hat : rh.attached = none) (hk : rh.kept = none) (hpa : rh.parent = some O) (hx : σ rh.mixed = some (.list [.ref a])) (hy : σ rh.ahead = some (.list []))
    (hnl : σ nl = some (.list ((lvNames many).map fun s => .str s 0)))
    (u1 : vm (Str.ofString "world") = some (.ref w)) (u2 : vm (Str.ofString "heir") = some (.ref h)) (u3 : vm (Str.ofString "names") = some (.ref nl)) (u4 : vm (Str.ofString "line_of") = some (.ref 410))
    (hP : ∀ σ', Lo [h, O, B] wr.version σ σ' → WS (gx x) 16 (sf x 893) ((bf x 893).drop 7) vm σ' P) : WS (gx x) 16 (sf x 893) ((bf x 893).drop 6) vm σ P := by
  have w0 := (dels_at W.at_).2
  have hline := levels_line (x := x) w0 hb (by rw [ht.k1]; trivial) (by rw [ht.k2]; trivial) (by rw [hk]; trivial) R hh hpa hx hy hn (by simp at hlen; omega)
  have hnamed : ∀ (k : Nat) (c : Addr), (h :: ((((a, ra) :: rest).map (·.1)).reverse ++ [O, K, B]))[k]? = some c → ∃ r s, Md σ c r ∧ r.attached = none ∧ r.nm = some s ∧ r.outer = none ∧ s.length ≤ 1000 ∧ (lvNames many)[k]? = some s := fun k c hc => by
    have hrl : (((a, ra) :: rest).map (·.1)).reverse.length = many := by simp at hlen ⊢; omega
    match k with
    | 0 =>
      cases hc
      exact ⟨rh, _, hh, hat, hnm, ho, by decide, rfl⟩
    | k + 1 =>
      have hc : ((((a, ra) :: rest).map (·.1)).reverse ++ [O, K, B])[k]? = some c := hc
      have hg : (lvNames many)[k + 1]? = ((List.range many).map mName ++ [sO, sK, sB])[k]? := rfl
      rw [hg]
      by_cases hkm : k < many
      · rw [List.getElem?_append_left (by omega)] at hc
        obtain ⟨r, xs, q⟩ := R.idx hc
        exact ⟨r, _, q.at_, q.att, q.nm, q.out, mName_len (by omega), by rw [List.getElem?_append_left (by simpa using hkm)]; simp [hkm]⟩
      · rw [List.getElem?_append_right (by omega), hrl] at hc
        rw [List.getElem?_append_right (by simp; omega), List.length_map, List.length_range]
        generalize k - many = j at hc ⊢
        match j, hc with
        | 0, hc => cases hc; obtain ⟨r, q1, q2, q3, q4⟩ := W.bO.named; exact ⟨r, _, (dels_at q1).2, q2, q3, q4, by decide, rfl⟩
        | 1, hc => cases hc; obtain ⟨r, q1, q2, q3, q4⟩ := W.bK.named; exact ⟨r, _, (dels_at q1).2, q2, q3, q4, by decide, rfl⟩
        | 2, hc => cases hc; obtain ⟨r, q1, q2, q3, q4⟩ := W.bB.named; exact ⟨r, _, (dels_at q1).2, q2, q3, q4, by decide, rfl⟩
        | j + 3, hc => simp at hc
  have hll : (h :: ((((a, ra) :: rest).map (·.1)).reverse ++ [O, K, B])).length = (lvNames many).length := by rw [lvNames_len]; simp at hlen ⊢; omega
  change WS _ _ _ (_ :: _) _ _ _
  repeat walk_at "m"
  refine WE.listComp [] ⟨by kernel_rfl⟩ (by intro y hy; cases hy) (WIt.list ?_) (by walk_at "hs2")
  repeat walk_at "m"
  refine callc (k := 5) hline (by decide) ?_
  rintro _ σ1 ⟨D, rfl, fD, hD, lo, _⟩
  refine ⟨D, _, rfl, hD, by rw [List.length_map, hll, lvNames_len]; omega, fun k ys σ' => Ext σ1 σ' ∧ ys = ((lvNames many).take k).map (fun s => .str s 0), ⟨Ext.refl _, by simp⟩, fun k ys σ' hJ => hJ.1 _ _ hD, ?_, ?_⟩
  · rintro k y ys σ' hy' ⟨e, rfl⟩
    obtain ⟨c, hc, rfl⟩ := ref_get hy'
    obtain ⟨r, s, g1, g2, g3, g4, g5, g6⟩ := hnamed k c hc
    obtain ⟨kk, g7⟩ := lo.km.md _ _ g1
    repeat walk_at "m"
    refine callc (k := 1) (full_name_plain (e _ _ g7) g2 g3 g4 g5) (by decide) ?_
    rintro _ σ2 ⟨rfl, e2⟩
    exact ⟨e.trans e2, by rw [take_succ' g6, List.map_append]; rfl⟩
  rintro ys σ2 D2 ⟨e, rfl⟩ hD2
  rw [List.length_map, hll, List.take_length]
  have e3 : Ext σ1 (upd σ2 D2 (.list ((lvNames many).map fun s => .str s 0))) := Ext.upd e hD2
  repeat walk_at "m"
  refine Cmp.neData (d := .list ((lvNames many).map .str)) (e := .list ((lvNames many).map .str)) (.list (upd_same _ _ _) (rdds_strs _)) (.list (e3 _ _ (lo.km.list hnl)) (rdds_strs _)) (lay_strs _ (lvNames_ok hm2)) (lay_strs _ (lvNames_ok hm2)) (by rw [PyData.depth, PyProof.Rows.depthAll_strs']; decide) ?_
  rw [PySem.SeqAt.eqv_refl _ (lay_strs _ (lvNames_ok hm2))]
  iterate 3 walk_at "m"
  exact hP _ (lo.ext e3)
end
-- P33
section
variable {x : XX} {n : Nat} {σ : AH}
theorem MRows.keepM {σ σ' : AH} {kv : Nat → List (Str × Value)} (h2 : ∀ b o, σ b = some o → o.kd ≠ 0 → σ' b = some o) : ∀ {cs : List (Addr × MR)}, MRows σ kv cs → (∀ p ∈ cs, Md σ' p.1 p.2) → MRows σ' kv cs
  | [], _, _ => trivial
  | (a, r) :: rest, h, h1 => by
    have c := h.1
    exact ⟨⟨h1 _ (List.mem_cons_self ..), c.num, c.nm, c.cls, c.out, c.att, c.nat, c.kept, h2 _ _ c.m (by simp [AO.kd]), h2 _ _ c.mxl (by simp [AO.kd]), h2 _ _ c.ahl (by simp [AO.kd])⟩, h.2.1, MRows.keepM h2 h.2.2 fun p hp => h1 p (List.mem_cons_of_mem _ hp)⟩
theorem MRows.lists {kv : Nat → List (Str × Value)} : ∀ {cs : List (Addr × MR)}, MRows σ kv cs → ∀ p ∈ cs, (∃ l, σ p.2.mixed = some (.list l)) ∧ ∃ l, σ p.2.ahead = some (.list l)
  | [], _, _, h => by cases h
  | (a, r) :: rest, h, p, hp => by
    rcases List.mem_cons.mp hp with rfl | hp
    · exact ⟨⟨_, h.1.mxl⟩, _, h.1.ahl⟩
    · exact MRows.lists h.2.2 p hp
theorem MRows.low {σ σ' : AH} {m : Addr} {N : Nat} {kv : Nat → List (Str × Value)} {kv' : List (Str × Value)} {k0 : List (Str × Value)} (h1 : ∀ a r, Md σ a r → Md σ' a r) (h2 : ∀ b o, σ b = some o → o.kd ≠ 0 → b ≠ m → σ' b = some o) (hm : σ m = some (.sdict k0)) :
    ∀ {cs : List (Addr × MR)}, MRows σ kv cs → cs.length ≤ N → (∀ p ∈ cs, p.2.methods ≠ m) → MRows σ' (fun j => if j = N then kv' else kv j) cs
  | [], _, _, _ => trivial
  | (a, r) :: rest, h, hN, hq => by
    have hN' : rest.length < N := by simp at hN; omega
    refine ⟨?_, h.2.1, MRows.low h1 h2 hm h.2.2 (by omega) fun p hp => hq p (List.mem_cons_of_mem _ hp)⟩
    have e : (fun j => if j = N then kv' else kv j) rest.length = kv rest.length := if_neg (by omega)
    rw [e]
    have c := h.1
    exact ⟨h1 _ _ c.at_, c.num, c.nm, c.cls, c.out, c.att, c.nat, c.kept, h2 _ _ c.m (by simp [AO.kd]) (hq _ (List.mem_cons_self ..)), h2 _ _ c.mxl (by simp [AO.kd]) (ne_kd c.mxl hm rfl), h2 _ _ c.ahl (by simp [AO.kd]) (ne_kd c.ahl hm rfl)⟩
theorem MRows.upd {σ σ' : AH} {kv : Nat → List (Str × Value)} {kv' : List (Str × Value)} {a : Addr} {r : MR} {suf : List (Addr × MR)} (h1 : ∀ a r, Md σ a r → Md σ' a r) (h2 : ∀ b o, σ b = some o → o.kd ≠ 0 → b ≠ r.methods → σ' b = some o) (hm : σ' r.methods = some (.sdict kv')) :
    ∀ {pre : List (Addr × MR)}, MRows σ kv (pre ++ (a, r) :: suf) → MRows σ' (fun j => if j = suf.length then kv' else kv j) (pre ++ (a, r) :: suf)
  | [], h => by
    have c := h.1
    refine ⟨?_, h.2.1, MRows.low h1 h2 c.m h.2.2 (Nat.le_refl _) fun p hp => (h.2.1 p hp).2⟩
    have e : (fun j => if j = suf.length then kv' else kv j) suf.length = kv' := if_pos rfl
    rw [e]
    exact ⟨h1 _ _ c.at_, c.num, c.nm, c.cls, c.out, c.att, c.nat, c.kept, hm, h2 _ _ c.mxl (by simp [AO.kd]) (ne_kd c.mxl c.m rfl), h2 _ _ c.ahl (by simp [AO.kd]) (ne_kd c.ahl c.m rfl)⟩
  | (b, q) :: pre, h => by
    have c := h.1
    obtain ⟨k, hk⟩ := MRows.meth h.2.2 (a, r) (by simp)
    refine ⟨?_, h.2.1, MRows.upd h1 h2 hm h.2.2⟩
    have e : (fun j => if j = suf.length then kv' else kv j) (pre.append ((a, r) :: suf)).length = kv (pre.append ((a, r) :: suf)).length := if_neg (by simp; omega)
    rw [e]
    exact ⟨h1 _ _ c.at_, c.num, c.nm, c.cls, c.out, c.att, c.nat, c.kept, h2 _ _ c.m (by simp [AO.kd]) (Ne.symm (h.2.1 (a, r) (by simp)).2), h2 _ _ c.mxl (by simp [AO.kd]) (ne_kd c.mxl hk rfl), h2 _ _ c.ahl (by simp [AO.kd]) (ne_kd c.ahl hk rfl)⟩
theorem MRows.at_ {kv : Nat → List (Str × Value)} {a : Addr} {r : MR} {suf : List (Addr × MR)} : ∀ {pre : List (Addr × MR)}, MRows σ kv (pre ++ (a, r) :: suf) → Mr σ (7 + suf.length) (mName suf.length) a r (kv suf.length) (one? (hd? suf))
  | [], h => h.1
  | _ :: pre, h => MRows.at_ (pre := pre) h.2.2
theorem MRows.put {σ' : AH} {w a : Addr} {wr : WR} {kv : Nat → List (Str × Value)} {r : MR} {pre suf : List (Addr × MR)} {nm bo : Str} (h : MRows σ kv (pre ++ (a, r) :: suf)) (hw : σ w = some (.inst 870 wr.fs)) (p : Put σ σ' w a wr r (kv suf.length) nm bo) :
    ∃ e t, MRows σ' (fun j => if j = suf.length then stored (kv suf.length) nm (.ref e) else kv j) (pre ++ (a, r) :: suf) ∧ σ' e = some (.inst 256 (ER.fs ⟨nm, a, Str.ofString "reader", bo, Str.ofString "public", t⟩)) ∧
      σ' w = some (.inst 870 ({ wr with version := wr.version + 1 } : WR).fs) ∧ (∀ b o, σ b = some o → b ≠ w → b ≠ r.methods → σ' b = some o) := by
  obtain ⟨e, t, σ1, fe, e1, he, rfl⟩ := p
  have c := h.at_
  have nmw : r.methods ≠ w := ne_kd c.m hw rfl
  have new : e ≠ w := fun q => by rw [q, hw] at fe; cases fe
  have nem : e ≠ r.methods := fun q => by rw [q, c.m] at fe; cases fe
  have k : ∀ b o, σ b = some o → b ≠ w → b ≠ r.methods → (Mine.upd (Mine.upd σ1 r.methods (.sdict (stored (kv suf.length) nm (.ref e)))) w (.inst 870 ({ wr with version := wr.version + 1 } : WR).fs)) b = some o := fun b o hb h1 h2 => upd_at h1 (upd_at h2 (e1 _ _ hb))
  exact ⟨e, t, h.upd (fun b q hb => k _ _ hb (ne_mw hb hw) (ne_kd c.m hb rfl).symm) (fun b o hb ho hn => k _ _ hb (fun q => by rw [q, hw] at hb; cases hb; exact ho rfl) hn) (upd_at nmw (upd_same _ _ _)), upd_at new (upd_at nem he), upd_same _ _ _, k⟩
/-- after the two methods were put: what stands -/
structure LPut (σ : AH) (w rl h O B C M K e1 e2 ag a : Addr) (wr : WR) (rh ro rb rk : MR) (kv : Nat → List (Str × Value)) (ms : List (Addr × MR)) : Prop where
  w : σ w = some (.inst 870 wr.fs)
  nat : σ wr.natives = some (.sdict [])
  pre : σ wr.prelude = some (.sdict [])
  base : Base σ O B C M K ro rb rk
  so : Stale σ wr.version ro.kept
  sb : Stale σ wr.version rb.kept
  sh : Stale σ wr.version rh.kept
  rows : MRows σ kv ms
  heir : Md σ h rh
  hnum : rh.number = 7 + ms.length
  hpa : rh.parent = some O
  hx : σ rh.mixed = some (.list [.ref a])
  hy : σ rh.ahead = some (.list [])
  mh : Mth σ h (Str.ofString "f") none
  mO : Mth σ O (Str.ofString "f") none
  mK : Mth σ K (Str.ofString "f") none
  mB : Mth σ B (Str.ofString "f") none
end
-- P34
section
variable {x : XX} {n : Nat} {σ : AH}
theorem kd_ne {o : AO} (h : o.kd ≠ 0) : ∀ fs, o ≠ .inst 228 fs := by intro fs e; rw [e] at h; exact h rfl
theorem levels_puts {many at_ : Nat} {P : Flow → VM → AH → Prop} {σ0 : AH} {w rl O B C M K h a : Addr} {rh ra ro rb rk : MR} {wr : WR} {rest : List (Addr × MR)} {vm : VM} (W : W5 (dels σ0 (((a, ra) :: rest).map (·.2.methods))) w wr O B C M K) (hb : Base σ0 O B C M K ro rb rk) (R : MRows σ0 (fun _ => []) ((a, ra) :: rest)) (hlen : ((a, ra) :: rest).length = many) (hm2 : many ≤ 30) (hat : at_ < many)
    (hh : Md σ0 h rh) (hn : rh.number = 7 + ((a, ra) :: rest).length) (hpa : rh.parent = some O) (hx : σ0 rh.mixed = some (.list [.ref a])) (hy : σ0 rh.ahead = some (.list [])) (hmm : σ0 rh.methods = some (.sdict [])) (hmd : ∀ p ∈ (a, ra) :: rest, p.2.methods ≠ rh.methods)
    (hrl : σ0 rl = some (.list (((a, ra) :: rest).map fun p => Value.ref p.1).reverse)) (lo : Lo [h, O, B] wr.version σ0 σ)
    (u1 : vm (Str.ofString "world") = some (.ref w)) (u2 : vm (Str.ofString "rows") = some (.ref rl)) (u3 : vm (Str.ofString "at") = some (.int at_ 0)) (u4 : vm (Str.ofString "_law_put") = some (.ref 881))
    (hP : ∀ e1 e2 ag rg pre suf wr' rh' ro' rb' kv σ', (a, ra) :: rest = pre ++ (ag, rg) :: suf → suf.length = at_ → LPut σ' w rl h O B C M K e1 e2 ag a wr' rh' ro' rb' rk kv ((a, ra) :: rest) →
      (∀ j, valueAt (kv j) (Str.ofString "f") = if j = rest.length then some (.ref e2) else if j = at_ then some (.ref e1) else none) → (∃ t, σ' e1 = some (.inst 256 (ER.fs ⟨Str.ofString "f", ag, Str.ofString "reader", Str.ofString "@near", Str.ofString "public", t⟩))) →
      (∃ t, σ' e2 = some (.inst 256 (ER.fs ⟨Str.ofString "f", a, Str.ofString "reader", Str.ofString "@far", Str.ofString "public", t⟩))) → (∀ b xs, σ0 b = some (.list xs) → σ' b = some (.list xs)) → WS (gx x) 16 (sf x 893) ((bf x 893).drop 9) vm σ' P) : WS (gx x) 16 (sf x 893) ((bf x 893).drop 7) vm σ P := by
  have w0 := (dels_at W.at_).2
  have w1 := lo.km.world w0
  have rl1 := lo.km.list hrl
  obtain ⟨pre, ⟨ag, rg⟩, suf, hc, hs⟩ := split_at (l := (a, ra) :: rest) (i := at_) (by omega)
  have R1 : MRows σ (fun _ => []) ((a, ra) :: rest) := R.keepM (fun b o hb' ho => lo.km.ot _ _ hb' (kd_ne ho)) fun p hp => by
    obtain ⟨g1, g2, g3⟩ := R.num p hp
    refine lo.out _ _ ?_ g1
    simp only [List.mem_cons, List.not_mem_nil, or_false, not_or]
    exact ⟨ne_num g1 hh (by rw [hn]; omega), ne_num g1 hb.o (by rw [hb.ono]; omega), ne_num g1 hb.b (by rw [hb.bno]; omega)⟩
  have c1 := MRows.at_ (hc ▸ R1)
  change WS _ _ _ (_ :: _) _ _ _
  repeat walk_at "m"
  refine SubP.list rl1 (by omega) (by omega) (by rw [hc]; exact rev_idx (by rw [hs])) ?_
  repeat walk_at "m"
  refine callc (k := 4) (law_put_spec c1.at_ (.inl c1.att) w1 c1.m (by simp)) (by decide) ?_
  intro _ σ2 p1
  obtain ⟨e1, t1, R2, he1, w2, k2⟩ := MRows.put (kv := fun _ => []) (hc ▸ R1) w1 p1
  rw [← hc] at R2
  obtain ⟨kv1, R2, q0, qn⟩ : ∃ kv1 : Nat → List (Str × Value), MRows σ2 kv1 ((a, ra) :: rest) ∧ kv1 at_ = stored [] (Str.ofString "f") (.ref e1) ∧ ∀ j, j ≠ at_ → kv1 j = [] := ⟨_, R2, by rw [hs]; exact if_pos rfl, fun j hj => if_neg (by rw [hs]; exact hj)⟩
  have rl2 := k2 _ _ rl1 (ne_kd rl1 w1 rfl) (ne_kd rl1 c1.m rfl)
  have hkl : ∀ j, (kv1 j).length ≤ 100000 := fun j => by
    by_cases h : j = at_
    · rw [h, q0]; exact Nat.le_trans (stored_len _ _ _) (by simp)
    · rw [qn _ h]; simp
  have c2 := MRows.at_ (pre := []) R2
  repeat walk_at "m"
  refine WE.neg (i := 1) (t := 0) ?_
  repeat walk_at "m"
  refine SubP.listNeg rl2 (by decide) (by decide) (head_idx (cs' := rest) (ah := a) (rh := ra)).2 (head_idx (cs' := rest) (ah := a) (rh := ra)).1 ?_
  repeat walk_at "m"
  refine callc (k := 4) (law_put_spec c2.at_ (.inl c2.att) w2 c2.m (hkl _)) (by decide) ?_
  intro _ σ3 p2
  obtain ⟨e2, t2, R3, he2, w3, k3⟩ := MRows.put (pre := []) R2 w2 p2
  have he1' := k3 _ _ he1 (ne_ew he1 w2) (ne_kd c2.m he1 rfl).symm
  have hin1 : rg.methods ∈ ((a, ra) :: rest).map (·.2.methods) := List.mem_map.mpr ⟨(ag, rg), by rw [hc]; simp, rfl⟩
  have hin2 : ra.methods ∈ ((a, ra) :: rest).map (·.2.methods) := by simp
  have F : ∀ b o, σ b = some o → b ≠ w → b ≠ rg.methods → b ≠ ra.methods → σ3 b = some o := fun b o hb' h1 h2 h3 => k3 _ _ (k2 _ _ hb' h1 h2) h1 h3
  have Fi : ∀ b r, Md σ b r → Md σ3 b r := fun b r hb' => F _ _ hb' (ne_mw hb' w1) (ne_kd c1.m hb' rfl).symm (fun e => by
    have := c2.m
    rw [← e] at this
    have h9 := (k2 _ _ hb' (ne_mw hb' w1) (ne_kd c1.m hb' rfl).symm).symm.trans this
    cases h9)
  have ram : σ ra.methods = some (.sdict []) := (MRows.at_ (pre := []) R1).m
  have Fl : ∀ {b xs}, σ0 b = some (.list xs) → σ3 b = some (.list xs) := fun hb' => F _ _ (lo.km.list hb') (ne_kd hb' w0 rfl) (ne_kd (lo.km.list hb') c1.m rfl) (ne_kd (lo.km.list hb') ram rfl)
  have Ft : ∀ {b xs}, σ b = some (.tup xs) → σ3 b = some (.tup xs) := fun hb' => F _ _ hb' (ne_kd hb' w1 rfl) (ne_kd hb' c1.m rfl) (ne_kd hb' ram rfl)
  have Fd : ∀ {b xs}, b ∉ ((a, ra) :: rest).map (·.2.methods) → σ0 b = some (.sdict xs) → σ3 b = some (.sdict xs) := fun hn' hb' => F _ _ (lo.km.sdict hb') (ne_kd hb' w0 rfl) (fun e => hn' (e ▸ hin1)) (fun e => hn' (e ▸ hin2))
  obtain ⟨th, lh, ih1, ih2⟩ := lo.inn h rh (by simp) hh
  obtain ⟨tO, lO, iO1, iO2⟩ := lo.inn O ro (by simp) hb.o
  obtain ⟨tB, lB, iB1, iB2⟩ := lo.inn B rb (by simp) hb.b
  have hK : Md σ K rk := lo.out _ _ (by
    simp only [List.mem_cons, List.not_mem_nil, or_false, not_or]
    exact ⟨ne_num hb.k hh (by rw [hn, hb.kno]; omega), ne_num hb.k hb.o (by rw [hb.ono, hb.kno]; decide), ne_num hb.k hb.b (by rw [hb.bno, hb.kno]; decide)⟩) hb.k
  have hver : wr.version ≠ wr.version + 1 + 1 := by omega
  have mth : ∀ {mk c ow num nm isC pa ms'}, Bi (dels σ0 (((a, ra) :: rest).map (·.2.methods))) mk c num ow nm isC pa ms' → Mth σ3 c (Str.ofString "f") none := fun {mk c ow num nm isC pa ms'} hbi => by
    obtain ⟨f, m, cc, xx, yy, g1, g2, _⟩ := hbi.ex
    obtain ⟨kk, g3⟩ := lo.km.md _ _ (dels_at g1).2
    exact ⟨_, _, Fi _ _ g3, Fd (dels_at g2).1 (dels_at g2).2, rfl⟩
  refine hP e1 e2 ag rg pre suf { wr with version := wr.version + 1 + 1 } { rh with kept := some th } { ro with kept := some tO } { rb with kept := some tB } _ σ3 hc hs ⟨w3, Fd (dels_at W.nat).1 (dels_at W.nat).2, Fd (dels_at W.pre).1 (dels_at W.pre).2, ⟨Fi _ _ iO1, Fi _ _ iB1, Fi _ _ hK, hb.ono, hb.bno, hb.kno, hb.op, hb.bp, Fl hb.ox, Fl hb.oy, Fl hb.bx, Fl hb.bY, Fl hb.kx, Fl hb.ky⟩,
    ⟨_, lO, Ft iO2, hver⟩, ⟨_, lB, Ft iB2, hver⟩, ⟨_, lh, Ft ih2, hver⟩, R3, Fi _ _ ih1, hn, hpa, Fl hx, Fl hy, ⟨_, _, Fi _ _ ih1, Fd (fun hm => by obtain ⟨p, hp, e⟩ := List.mem_map.mp hm; exact hmd p hp e) hmm, rfl⟩, mth W.bO, mth W.bK, mth W.bB⟩ ?_ ⟨t1, he1'⟩ ⟨t2, he2⟩ (fun b xs hb' => Fl hb')
  intro j
  by_cases hj : j = rest.length
  · subst hj
    rw [if_pos rfl, if_pos rfl, valueAt_stored, if_pos rfl]
  · rw [if_neg hj, if_neg hj]
    by_cases hj2 : j = at_
    · rw [if_pos hj2, hj2, q0, valueAt_stored, if_pos rfl]
    · rw [if_neg hj2, qn _ hj2]; rfl
end
-- P35
section
variable {x : XX} {n : Nat} {σ : AH}
theorem fnd_preA {nm : Str} {L : List Addr} {o : Option Addr} (hL : Fnd σ nm L o) : ∀ {l : List Addr}, (∀ c ∈ l, Mth σ c nm none) → Fnd σ nm (l ++ L) o
  | [], _ => hL
  | c :: l, h => .skip (h c (by simp)) (fnd_preA hL fun q hq => h q (by simp [hq]))
theorem lvNames_at {many k : Nat} (h : k < many) : ((lvNames many).map fun s => Value.str s 0)[k + 1]? = some (.str (mName k) 0) := by
  rw [List.getElem?_map]
  show Option.map _ (((List.range many).map mName ++ [sO, sK, sB])[k]?) = _
  rw [List.getElem?_append_left (by simpa using h)]
  simp [h]
theorem MRows.mem {kv : Nat → List (Str × Value)} {ms : List (Addr × MR)} (h : MRows σ kv ms) {s t : List (Addr × MR)} {p : Addr × MR} (e : ms = s ++ p :: t) : Mr σ (7 + t.length) (mName t.length) p.1 p.2 (kv t.length) (one? (hd? t)) := MRows.at_ (a := p.1) (r := p.2) (pre := s) (e ▸ h)
theorem Mth.of {a : Addr} {r : MR} {kv : List (Str × Value)} {nm : Str} {o : Option Value} (h : Md σ a r) (hm : σ r.methods = some (.sdict kv)) (hv : valueAt kv nm = o) : Mth σ a nm o := ⟨r, kv, h, hm, hv⟩
/-- what the two searches find -/
theorem levels_fnd {w rl h O B C M K e1 e2 ag a : Addr} {wr : WR} {rh ro rb rk ra rg : MR} {kv : Nat → List (Str × Value)} {rest pre suf : List (Addr × MR)} {at_ : Nat} {er1 er2 : ER} (S : LPut σ w rl h O B C M K e1 e2 ag a wr rh ro rb rk kv ((a, ra) :: rest)) (hc : (a, ra) :: rest = pre ++ (ag, rg) :: suf) (hs : suf.length = at_)
    (hkv : ∀ j, valueAt (kv j) (Str.ofString "f") = if j = rest.length then some (.ref e2) else if j = at_ then some (.ref e1) else none) (h1 : σ e1 = some (.inst 256 er1.fs)) (s1 : er1.sort = Str.ofString "reader") (h2 : σ e2 = some (.inst 256 er2.fs)) (s2 : er2.sort = Str.ofString "reader") :
    ((((a, ra) :: rest).map (·.1)).reverse = (suf.map (·.1)).reverse ++ ag :: (pre.map (·.1)).reverse) ∧
    Fnd σ (Str.ofString "f") (h :: ((((a, ra) :: rest).map (·.1)).reverse ++ [O, K, B])) (some (if at_ = rest.length then e2 else e1)) ∧ Fnd σ (Str.ofString "f") ((pre.map (·.1)).reverse ++ [O, K, B]) (if at_ = rest.length then none else some e2) := by
  have hrev : (((a, ra) :: rest).map (·.1)).reverse = (suf.map (·.1)).reverse ++ ag :: (pre.map (·.1)).reverse := by rw [hc]; simp
  have hl := congrArg List.length hc
  simp at hl
  have R := S.rows
  refine ⟨hrev, ?_, ?_⟩
  · refine .skip S.mh ?_
    rw [hrev, List.append_assoc]
    have c := R.mem hc
    have hv := hkv suf.length
    rw [hs] at hv
    refine fnd_preA ?_ fun c' hc' => ?_
    · by_cases h : at_ = rest.length
      · rw [if_pos h]
        rw [if_pos h] at hv
        exact .hit (.of c.at_ c.m (by rw [hs]; exact hv)) h2 s2
      · rw [if_neg h]
        rw [if_neg h, if_pos rfl] at hv
        exact .hit (.of c.at_ c.m (by rw [hs]; exact hv)) h1 s1
    · obtain ⟨p, hp, rfl⟩ := List.mem_map.mp (List.mem_reverse.mp hc')
      obtain ⟨s, t, e⟩ := List.append_of_mem hp
      have c' := R.mem (s := pre ++ (ag, rg) :: s) (t := t) (p := p) (by rw [hc, e]; simp)
      have ht : t.length < suf.length := by rw [e]; simp; omega
      exact .of c'.at_ c'.m (by rw [hkv, if_neg (by omega), if_neg (by omega)])
  · have tail : Fnd σ (Str.ofString "f") [O, K, B] none := .skip S.mO (.skip S.mK (.skip S.mB .nil))
    cases pre with
    | nil =>
      have : at_ = rest.length := by simp at hl; omega
      rw [if_pos this]
      exact tail
    | cons p pre' =>
      have : at_ ≠ rest.length := by simp at hl; omega
      rw [if_neg this]
      cases hc
      have c := R.mem (s := []) (t := pre' ++ (ag, rg) :: suf) (p := (a, ra)) rfl
      rw [List.map_cons, List.reverse_cons, List.append_assoc]
      refine fnd_preA (.hit (.of c.at_ c.m (by rw [hkv]; exact if_pos rfl)) h2 s2) fun c' hc' => ?_
      obtain ⟨p, hp, rfl⟩ := List.mem_map.mp (List.mem_reverse.mp hc')
      obtain ⟨s, t, e⟩ := List.append_of_mem hp
      have c' := R.mem (s := (a, ra) :: s) (t := t ++ (ag, rg) :: suf) (p := p) (by rw [e]; simp)
      refine .of c'.at_ c'.m ?_
      have n1 : (t ++ (ag, rg) :: suf).length ≠ (pre'.append ((ag, rg) :: suf)).length := by rw [e]; simp; omega
      have n2 : (t ++ (ag, rg) :: suf).length ≠ at_ := by simp; omega
      rw [hkv, if_neg n1, if_neg n2]
end
-- P36
section
variable {x : XX} {n : Nat} {σ : AH}
theorem levels_last {P : Flow → VM → AH → Prop} {many : Nat} {w rl h O B C M K e1 e2 ag a nl : Addr} {wr : WR} {rh ro rb rk ra rg : MR} {kv : Nat → List (Str × Value)} {rest pre suf : List (Addr × MR)} {at_ : Nat} {t1 t2 : Addr} {vm : VM} (S : LPut σ w rl h O B C M K e1 e2 ag a wr rh ro rb rk kv ((a, ra) :: rest)) (hc : (a, ra) :: rest = pre ++ (ag, rg) :: suf) (hs : suf.length = at_)
    (hlen : rest.length + 1 = many) (hm2 : many ≤ 30)
    (hkv : ∀ j, valueAt (kv j) (Str.ofString "f") = if j = rest.length then some (.ref e2) else if j = at_ then some (.ref e1) else none)
    (h1 : σ e1 = some (.inst 256 (ER.fs ⟨Str.ofString "f", ag, Str.ofString "reader", Str.ofString "@near", Str.ofString "public", t1⟩))) (h2 : σ e2 = some (.inst 256 (ER.fs ⟨Str.ofString "f", a, Str.ofString "reader", Str.ofString "@far", Str.ofString "public", t2⟩)))
    (hnl : σ nl = some (.list ((lvNames many).map fun s => .str s 0)))
    (u1 : vm (Str.ofString "world") = some (.ref w)) (u2 : vm (Str.ofString "heir") = some (.ref h)) (u3 : vm (Str.ofString "names") = some (.ref nl)) (u4 : vm (Str.ofString "at") = some (.int at_ 0)) (u5 : vm (Str.ofString "levels") = some (.int many 0)) (u6 : vm (Str.ofString "find") = some (.ref 459)) (u7 : vm (Str.ofString "_law_plain") = some (.ref 888)) (u8 : vm (Str.ofString "find_behind") = some (.ref 466))
    (hP : ∀ vm σ', P (.ret (.bool true)) vm σ') : WS (gx x) 16 (sf x 893) ((bf x 893).drop 9) vm σ P := by
  obtain ⟨hrev, hf1, hf2⟩ := levels_fnd S hc hs hkv h1 rfl h2 rfl
  have hl := congrArg List.length hc
  simp at hl
  have hline := levels_line (x := x) S.w S.base S.so S.sb S.sh S.rows S.heir S.hpa S.hx S.hy S.hnum (by omega)
  have cg := S.rows.mem hc
  have ca := S.rows.mem (s := []) (t := rest) (p := (a, ra)) rfl
  change WS _ _ _ (_ :: _) _ _ _
  repeat walk_at "m"
  refine callc (k := 6) (find_spec hline (P := fun v σ'' => ∃ σ1 D t, v = .ref (if at_ = rest.length then e2 else e1) ∧ Lo [h, O, B] wr.version σ σ1 ∧ Ext σ1 σ'' ∧ σ1 D = some (.list ((h :: ((((a, ra) :: rest).map (·.1)).reverse ++ [O, K, B])).map .ref)) ∧ Md σ1 h { rh with kept := some t } ∧ σ1 t = some (.tup [.int wr.version 0, .ref D])) ?_) (by decide) ?_
  · rintro _ σ1 ⟨D, rfl, fD, hD, lo, t, k1, k2⟩
    exact ⟨D, rfl, (first_entry_spec (lo.km.world S.w) (lo.km.sdict S.nat) (lo.km.sdict S.pre) hD (hf1.km lo.km)).mono fun v σ'' ⟨e, ex⟩ => ⟨σ1, D, t, e, lo, ex, hD, k1, k2⟩⟩
  rintro _ σ2 ⟨σ1, D, t, rfl, lo, e12, hD, k1, k2⟩
  have km : Km σ σ2 := lo.km.trans (Km.of_ext e12)
  have nl2 := km.list hnl
  have w2 := km.world S.w
  obtain ⟨kg, ig⟩ := km.md _ _ cg.at_
  obtain ⟨ka, ia⟩ := km.md _ _ ca.at_
  by_cases hA : at_ = rest.length
  · simp only [if_pos hA] at hf2 ⊢
    have heq : ((at_ : Int) == (many : Int) - 1) = true := by simp; omega
    obtain rfl : pre = [] := List.eq_nil_of_length_eq_zero (by omega)
    cases hc
    repeat walk_at "m"
    refine Bin.subInt ?_
    repeat walk_at "m"
    refine SubP.list nl2 (by omega) (by omega) (by rw [show ((many : Nat) : Int).toNat = rest.length + 1 by omega]; exact lvNames_at (by omega)) ?_
    repeat walk_at "m"
    intro d2 hd2
    repeat walk_at "m"
    intro d3 hd3
    repeat walk_at "m"
    have e3 : Ext σ2 (upd (upd σ2 d2 (.tup [.str (Str.ofString "@far") 0, .str (mName rest.length) 0])) d3 (.list [.ref d2])) := Ext.upd (Ext.upd (Ext.refl _) hd2) hd3
    have g2 := show (upd (upd σ2 d2 (.tup [.str (Str.ofString "@far") 0, .str (mName rest.length) 0])) d3 (.list [.ref d2])) d2 = some (.tup [.str (Str.ofString "@far") 0, .str (mName rest.length) 0]) from upd_old hd3 (upd_same _ _ _)
    have g3 := show (upd (upd σ2 d2 (.tup [.str (Str.ofString "@far") 0, .str (mName rest.length) 0])) d3 (.list [.ref d2])) d3 = some (.list [.ref d2]) from upd_same _ _ _
    generalize (upd (upd σ2 d2 (.tup [.str (Str.ofString "@far") 0, .str (mName rest.length) 0])) d3 (.list [.ref d2])) = σ3 at e3 g2 g3 ⊢
    refine callc (k := 2) (law_plain_some (e3 _ _ (km.entry h2)) rfl (full_name_plain (e3 _ _ ia) ca.att ca.nm ca.out (mName_len (by omega)))) (by decide) ?_
    rintro _ σ4 ⟨r1, rfl, f1, e4, hr1⟩
    have e24 := e3.trans e4
    have km4 : Km σ σ4 := km.trans (Km.of_ext e24)
    repeat walk_at "m"
    refine SubP.list (e4 _ _ g3) (by decide) (by decide) rfl ?_
    have hlay2 : (PyData.tuple [.str (Str.ofString "@far"), .str (mName rest.length)]).canLay0 = true := by
      have q1 : PyData.strOk (Str.ofString "@far") = true := by decide +kernel
      simp [PyData.canLay0, PyData.canLayAll0, q1, mName_ok (i := rest.length) (by omega)]
    refine Cmp.neData (d := .tuple [.str (Str.ofString "@far"), .str (mName rest.length)]) (e := .tuple [.str (Str.ofString "@far"), .str (mName rest.length)]) (.tup hr1 (.cons (.str _ _) (.cons (.str _ _) .nil))) (.tup (e4 _ _ g2) (.cons (.str _ _) (.cons (.str _ _) .nil))) hlay2 hlay2 (by apply of_decide_eq_true; kernel_rfl) ?_
    rw [PySem.SeqAt.eqv_refl _ hlay2]
    have he24 := km4.entry h2
    have w4 := km4.world S.w
    repeat walk_at "m"
    have hD4 : σ4 D = some (.list (((h :: (rest.map (·.1)).reverse) ++ ag :: (([] : List Addr) ++ [O, K, B])).map .ref)) := by
      rw [hrev] at hD
      have := e24 _ _ (e12 _ _ hD)
      simpa using this
    have hnum4 : ∀ {c r}, Md σ c r → r.number = numOf σ4 c ∧ ∃ q, Md σ4 c q ∧ q.number = numOf σ4 c := fun {c r} hm => by
      obtain ⟨k9, h9⟩ := km4.md _ _ hm
      have h10 := numOf_md h9
      exact ⟨h10, _, h9, h10⟩
    have hrows : ∀ p ∈ (ag, ra) :: rest, ∃ q, Md σ4 p.1 q ∧ q.number = numOf σ4 p.1 := fun p hp => (hnum4 (S.rows.num p hp).1).2
    obtain ⟨kg4, ig4⟩ := km4.md _ _ ca.at_
    have hl2 := line_of_kept (x := x) (wr := wr) (w4) (e24 _ _ (e12 _ _ k1)) rfl (e24 _ _ (e12 _ _ k2))
    refine callc (k := 6) (find_behind_spec (nu := numOf σ4) (D := D) (pre := h :: (rest.map (·.1)).reverse) (post := ([] : List Addr) ++ [O, K, B]) (hl2.le (by decide)) (fun v σ5 hv => ⟨D, hv.1, hv.2, hv.2 _ _ hD4⟩) w4 (km4.sdict S.nat) (km4.sdict S.pre) ?_ ig4 (numOf_md ig4) ?_ (hf2.km km4) (by simp; omega)) (by decide) ?_
    · intro c hc'
      simp only [List.nil_append, List.cons_append, List.mem_cons, List.mem_append, List.mem_reverse, List.mem_map, List.not_mem_nil, or_false] at hc'
      rcases hc' with rfl | ⟨p, hp, rfl⟩ | rfl | rfl | rfl | rfl
      · exact (hnum4 S.heir).2
      · exact hrows p (by simp [hp])
      · exact ⟨_, ig4, numOf_md ig4⟩
      · exact (hnum4 S.base.o).2
      · exact (hnum4 S.base.k).2
      · exact (hnum4 S.base.b).2
    · intro c hc'
      have ng := (hnum4 ca.at_).1
      rw [ca.num] at ng
      simp only [List.mem_cons, List.mem_reverse, List.mem_map] at hc'
      rcases hc' with rfl | ⟨p, hp, rfl⟩
      · have := (hnum4 S.heir).1
        rw [S.hnum] at this
        rw [← this, ← ng]
        simp; omega
      · obtain ⟨s, t', e⟩ := List.append_of_mem hp
        have c' := S.rows.mem (s := (ag, ra) :: s) (t := t') (p := p) (by rw [e]; simp)
        have := (hnum4 c'.at_).1
        rw [c'.num] at this
        have ht : t'.length < rest.length := by rw [e]; simp; omega
        rw [← this, ← ng]
        omega
    rintro _ σ5 ⟨rfl, e5⟩
    rw [show oA none = .none from rfl]
    refine callc (k := 2) law_plain_none (by decide) ?_
    rintro _ _ ⟨rfl, rfl⟩
    have g36 := e5 _ _ (e4 _ _ g3)
    repeat walk_at "m"
    intro d4 hd4
    repeat walk_at "m"
    refine Bin.addList (upd_old hd4 g36) (upd_same _ _ _) (by simp) fun d5 hd5 => ?_
    repeat walk_at "m"
    refine SubP.list (upd_same _ _ _) (by decide) (by decide) rfl ?_
    refine Cmp.eqData (d := .none) (e := .none) .none .none rfl rfl (by decide) ?_
    rw [PySem.SeqAt.eqv_refl _ rfl]
    repeat walk_at "m"
    exact hP _ _
  · simp only [if_neg hA] at hf2 ⊢
    have heq : ((at_ : Int) == (many : Int) - 1) = false := by simp; omega
    repeat walk_at "m"
    refine Bin.subInt ?_
    repeat walk_at "m"
    refine SubP.list nl2 (by omega) (by omega) (by rw [show ((1 : Int) + (at_ : Int)).toNat = at_ + 1 by omega]; exact lvNames_at (by omega)) ?_
    repeat walk_at "m"
    intro d1 hd1
    repeat walk_at "m"
    refine SubP.list (upd_old hd1 nl2) (by omega) (by omega) (by rw [show ((many : Nat) : Int).toNat = rest.length + 1 by omega]; exact lvNames_at (by omega)) ?_
    repeat walk_at "m"
    intro d2 hd2
    repeat walk_at "m"
    intro d3 hd3
    repeat walk_at "m"
    have e3 : Ext σ2 (upd (upd (upd σ2 d1 (.tup [.str (Str.ofString "@near") 0, .str (mName at_) 0])) d2 (.tup [.str (Str.ofString "@far") 0, .str (mName rest.length) 0])) d3 (.list [.ref d1, .ref d2])) := Ext.upd (Ext.upd (Ext.upd (Ext.refl _) hd1) hd2) hd3
    have g1 := show (upd (upd (upd σ2 d1 (.tup [.str (Str.ofString "@near") 0, .str (mName at_) 0])) d2 (.tup [.str (Str.ofString "@far") 0, .str (mName rest.length) 0])) d3 (.list [.ref d1, .ref d2])) d1 = some (.tup [.str (Str.ofString "@near") 0, .str (mName at_) 0]) from upd_old hd3 (upd_old hd2 (upd_same _ _ _))
    have g2 := show (upd (upd (upd σ2 d1 (.tup [.str (Str.ofString "@near") 0, .str (mName at_) 0])) d2 (.tup [.str (Str.ofString "@far") 0, .str (mName rest.length) 0])) d3 (.list [.ref d1, .ref d2])) d2 = some (.tup [.str (Str.ofString "@far") 0, .str (mName rest.length) 0]) from upd_old hd3 (upd_same _ _ _)
    have g3 := show (upd (upd (upd σ2 d1 (.tup [.str (Str.ofString "@near") 0, .str (mName at_) 0])) d2 (.tup [.str (Str.ofString "@far") 0, .str (mName rest.length) 0])) d3 (.list [.ref d1, .ref d2])) d3 = some (.list [.ref d1, .ref d2]) from upd_same _ _ _
    generalize (upd (upd (upd σ2 d1 (.tup [.str (Str.ofString "@near") 0, .str (mName at_) 0])) d2 (.tup [.str (Str.ofString "@far") 0, .str (mName rest.length) 0])) d3 (.list [.ref d1, .ref d2])) = σ3 at e3 g1 g2 g3 ⊢
    refine callc (k := 2) (law_plain_some (e3 _ _ (km.entry h1)) rfl (full_name_plain (e3 _ _ ig) cg.att cg.nm cg.out (mName_len (by omega)))) (by decide) ?_
    rintro _ σ4 ⟨r1, rfl, f1, e4, hr1⟩
    have e24 := e3.trans e4
    have km4 : Km σ σ4 := km.trans (Km.of_ext e24)
    rw [hs] at hr1
    repeat walk_at "m"
    refine SubP.list (e4 _ _ g3) (by decide) (by decide) rfl ?_
    have hlay : (PyData.tuple [.str (Str.ofString "@near"), .str (mName at_)]).canLay0 = true := by
      have q1 : PyData.strOk (Str.ofString "@near") = true := by decide +kernel
      simp [PyData.canLay0, PyData.canLayAll0, q1, mName_ok (i := at_) (by omega)]
    have hlay2 : (PyData.tuple [.str (Str.ofString "@far"), .str (mName rest.length)]).canLay0 = true := by
      have q1 : PyData.strOk (Str.ofString "@far") = true := by decide +kernel
      simp [PyData.canLay0, PyData.canLayAll0, q1, mName_ok (i := rest.length) (by omega)]
    refine Cmp.neData (d := .tuple [.str (Str.ofString "@near"), .str (mName at_)]) (e := .tuple [.str (Str.ofString "@near"), .str (mName at_)]) (.tup hr1 (.cons (.str _ _) (.cons (.str _ _) .nil))) (.tup (e4 _ _ g1) (.cons (.str _ _) (.cons (.str _ _) .nil))) hlay hlay (by apply of_decide_eq_true; kernel_rfl) ?_
    rw [PySem.SeqAt.eqv_refl _ hlay]
    have he14 := km4.entry h1
    have nl4 := km4.list hnl
    have w4 := km4.world S.w
    repeat walk_at "m"
    have hD4 : σ4 D = some (.list (((h :: (suf.map (·.1)).reverse) ++ ag :: ((pre.map (·.1)).reverse ++ [O, K, B])).map .ref)) := by
      rw [hrev] at hD
      have := e24 _ _ (e12 _ _ hD)
      simpa using this
    have hnum4 : ∀ {c r}, Md σ c r → r.number = numOf σ4 c ∧ ∃ q, Md σ4 c q ∧ q.number = numOf σ4 c := fun {c r} hm => by
      obtain ⟨k9, h9⟩ := km4.md _ _ hm
      have h10 := numOf_md h9
      exact ⟨h10, _, h9, h10⟩
    have hrows : ∀ p ∈ (a, ra) :: rest, ∃ q, Md σ4 p.1 q ∧ q.number = numOf σ4 p.1 := fun p hp => (hnum4 (S.rows.num p hp).1).2
    obtain ⟨kg4, ig4⟩ := km4.md _ _ cg.at_
    have hl2 := line_of_kept (x := x) (wr := wr) (w4) (e24 _ _ (e12 _ _ k1)) rfl (e24 _ _ (e12 _ _ k2))
    refine callc (k := 6) (find_behind_spec (nu := numOf σ4) (D := D) (pre := h :: (suf.map (·.1)).reverse) (post := (pre.map (·.1)).reverse ++ [O, K, B]) (hl2.le (by decide)) (fun v σ5 hv => ⟨D, hv.1, hv.2, hv.2 _ _ hD4⟩) w4 (km4.sdict S.nat) (km4.sdict S.pre) ?_ ig4 (numOf_md ig4) ?_ (hf2.km km4) (by simp; omega)) (by decide) ?_
    · intro c hc'
      simp only [List.cons_append, List.mem_cons, List.mem_append, List.mem_reverse, List.mem_map, List.not_mem_nil, or_false] at hc'
      rcases hc' with rfl | ⟨p, hp, rfl⟩ | rfl | ⟨p, hp, rfl⟩ | rfl | rfl | rfl
      · exact (hnum4 S.heir).2
      · exact hrows p (by rw [hc]; simp [hp])
      · exact ⟨_, ig4, numOf_md ig4⟩
      · exact hrows p (by rw [hc]; simp [hp])
      · exact (hnum4 S.base.o).2
      · exact (hnum4 S.base.k).2
      · exact (hnum4 S.base.b).2
    · intro c hc'
      have ng := (hnum4 cg.at_).1
      rw [cg.num] at ng
      simp only [List.mem_cons, List.mem_reverse, List.mem_map] at hc'
      rcases hc' with rfl | ⟨p, hp, rfl⟩
      · have := (hnum4 S.heir).1
        rw [S.hnum] at this
        rw [← this, ← ng]
        simp; omega
      · obtain ⟨s, t', e⟩ := List.append_of_mem hp
        have c' := S.rows.mem (s := pre ++ (ag, rg) :: s) (t := t') (p := p) (by rw [hc, e]; simp)
        have := (hnum4 c'.at_).1
        rw [c'.num] at this
        have ht : t'.length < suf.length := by rw [e]; simp; omega
        rw [← this, ← ng]
        omega
    rintro _ σ5 ⟨rfl, e5⟩
    have e25 := e24.trans e5
    rw [show oA (some e2) = .ref e2 from rfl]
    refine callc (k := 2) (law_plain_some (e25 _ _ (km.entry h2)) rfl (full_name_plain (e25 _ _ ia) ca.att ca.nm ca.out (mName_len (by omega)))) (by decide) ?_
    rintro _ σ6 ⟨r2, rfl, f2, e6, hr2⟩
    have g36 := e6 _ _ (e5 _ _ (e4 _ _ g3))
    have g26 := e6 _ _ (e5 _ _ (e4 _ _ g2))
    repeat walk_at "m"
    intro d4 hd4
    repeat walk_at "m"
    refine Bin.addList (upd_old hd4 g36) (upd_same _ _ _) (by simp) fun d5 hd5 => ?_
    repeat walk_at "m"
    refine SubP.list (upd_same _ _ _) (by decide) (by decide) rfl ?_
    refine Cmp.eqData (d := .tuple [.str (Str.ofString "@far"), .str (mName rest.length)]) (e := .tuple [.str (Str.ofString "@far"), .str (mName rest.length)]) (.tup (upd_old hd5 (upd_old hd4 hr2)) (.cons (.str _ _) (.cons (.str _ _) .nil))) (.tup (upd_old hd5 (upd_old hd4 g26)) (.cons (.str _ _) (.cons (.str _ _) .nil))) hlay2 hlay2 (by apply of_decide_eq_true; kernel_rfl) ?_
    rw [PySem.SeqAt.eqv_refl _ hlay2]
    repeat walk_at "m"
    exact hP _ _
end
-- P37
section
variable {x : XX} {n : Nat} {σ : AH}
theorem law_levels {many at_ : Nat} (hm : 1 ≤ many) (hm2 : many ≤ 30) (hat : at_ < many) : WCode (gx x) 17 893 [.int many 0, .int at_ 0] σ fun v _ => v = .bool true := by
  refine WCode.ofP fk_893_2 rfl fun Pq hPq => ?_
  refine levels_rows hm hm2 ?_
  intro w rl O B C M K wr ms vm σ1 S hlen g
  have u1 : vm (Str.ofString "world") = some (.ref w) := (g _ (by decide)).trans (by walk_at "vm")
  have u2 : vm (Str.ofString "rows") = some (.ref rl) := (g _ (by decide)).trans (by walk_at "vm")
  have u3 : vm (Str.ofString "include") = some (.ref 536) := (g _ (by decide)).trans (by walk_at "vm")
  have u4 : vm (Str.ofString "levels") = some (.int many 0) := (g _ (by decide)).trans (by walk_at "vm")
  have u5 : vm (Str.ofString "range") = some (.type "range") := (g _ (by decide)).trans (by walk_at "vm")
  have u6 : vm (Str.ofString "line_of") = some (.ref 410) := (g _ (by decide)).trans (by walk_at "vm")
  have u7 : vm (Str.ofString "at") = some (.int at_ 0) := (g _ (by decide)).trans (by walk_at "vm")
  have u8 : vm (Str.ofString "_law_put") = some (.ref 881) := (g _ (by decide)).trans (by walk_at "vm")
  have u9 : vm (Str.ofString "find") = some (.ref 459) := (g _ (by decide)).trans (by walk_at "vm")
  have u10 : vm (Str.ofString "_law_plain") = some (.ref 888) := (g _ (by decide)).trans (by walk_at "vm")
  have u11 : vm (Str.ofString "find_behind") = some (.ref 466) := (g _ (by decide)).trans (by walk_at "vm")
  refine levels_heir (at_ := at_) S hlen hm hm2 u1 u2 u3 ?_
  intro h a ra rest rh wr' σ2 hms W R hrl hh hn hnm ho hatt hna hk hpa hx hy hmm hmd
  subst hms
  refine levels_names (at_ := at_) hm2 (by walk_at "vm") (by walk_at "vm") ?_
  intro nl σ3 e3 hnl
  have W3 : W5 (dels σ3 (((a, ra) :: rest).map (·.2.methods))) w wr' O B C M K := W.keep (dels_of (dels_at W.at_).1 (e3 _ _ (dels_at W.at_).2)) ⟨rfl, rfl, rfl⟩ fun b o hb _ => dels_of (dels_at hb).1 (e3 _ _ (dels_at hb).2)
  have R3 := R.keep (fun a r h => e3 _ _ h) (fun b o h _ => e3 _ _ h)
  obtain ⟨ro, rb, rk, hb0, ht⟩ := W3.base
  have hb := hb0.mono (fun b o h => (dels_at h).2)
  refine levels_if (many := many) W3 hb ht R3 hlen hm2 (e3 _ _ hh) hn hnm ho hatt hk hpa (e3 _ _ hx) (e3 _ _ hy) hnl (by walk_at "vm") (by walk_at "vm") (by walk_at "vm") (by walk_at "vm") ?_
  intro σ4 lo
  refine levels_puts (many := many) W3 hb R3 hlen hm2 hat (e3 _ _ hh) hn hpa (e3 _ _ hx) (e3 _ _ hy) (e3 _ _ hmm) hmd (e3 _ _ hrl) lo (by walk_at "vm") (by walk_at "vm") (by walk_at "vm") (by walk_at "vm") ?_
  intro e1 e2 ag rg pre suf wr'' rh' ro' rb' kv σ5 hc hs S5 hkv h1 h2 hlst
  obtain ⟨t1, h1⟩ := h1
  obtain ⟨t2, h2⟩ := h2
  exact levels_last S5 hc hs (by simpa using hlen) hm2 hkv h1 h2 (hlst _ _ hnl) (by walk_at "vm") (by walk_at "vm") (by walk_at "vm") (by walk_at "vm") (by walk_at "vm") (by walk_at "vm") (by walk_at "vm") (by walk_at "vm") (fun _ _ => hPq.ret _ _ _ rfl)
end
-- J1
section
variable {x : XX} {n : Nat} {σ : AH}
theorem Bin.modInt {G : GX} {P : Value → AH → Prop} {i j t u} (hj : j ≠ 0) (h : P (.int (i.fmod j) 0) σ) : Bin G n .Mod (.int i t) (.int j u) σ P := fun a' b' ea eb c m ex s Q E ok I kk => by
  obtain ⟨_, rfl⟩ := er_is_int ea
  obtain ⟨_, rfl⟩ := er_is_int eb
  exact mod_int hj (kk (.int (i.fmod j) _) σ s.heap _ h I)
theorem Bin.fdivInt {G : GX} {P : Value → AH → Prop} {i j t u} (hj : j ≠ 0) (hp : Builtin.divisionGoesByPylong i j = false) (h : P (.int (i.fdiv j) 0) σ) : Bin G n .FloorDiv (.int i t) (.int j u) σ P := fun a' b' ea eb c m ex s Q E ok I kk => by
  obtain ⟨_, rfl⟩ := er_is_int ea
  obtain ⟨_, rfl⟩ := er_is_int eb
  exact floordiv_int hj (kk (.int (i.fdiv j) _) σ s.heap _ h I) (.inl hp)
theorem Inv.nil {G : GX} {c : Cx} {m : Str → Option Value} {h : Heap} (F : Fr c.h₀ c.L h m) : Inv G c m [] (fun _ => none) h := by
  refine ⟨[], fun _ => [], F, ?_, List.nodup_nil, List.nodup_nil, ?_⟩
  · intro p hp; cases hp
  · intro a ao e; cases e
noncomputable abbrev jvm (x : XX) (sc : Scope) (a : Addr) (i : Int) : VM := ((argVM (gx x) sc []).set (Str.ofString "script") (.ref a)).set (Str.ofString "mark") (.int i 0)
theorem lookup_memE {α β : Type} [BEq α] [LawfulBEq α] {l : List (α × β)} {y : α} {b : β} (h : l.lookup y = some b) : (y, b) ∈ l := by
  induction l with
  | nil => cases h
  | cons p l ih =>
    obtain ⟨z, c⟩ := p
    rw [List.lookup_cons] at h
    split at h
    · rename_i q; cases h; rw [beq_iff_eq.mp q]; exact .head _
    · exact .tail _ (ih h)
theorem law_join {c : Cx} {m : Str → Option Value} {s : Shared} {sc : Scope} {Q : Flow → Shared → Prop} {E : Value → Shared → Prop} {e1 t1 : Expr} {rest2 : List Expr} {p0 p1 p2 p3 : Pos} {body restS : List Stmt} {a : Addr}
    (ok : c.Ok (gx x) 18) (es : c.fenv.scope = sc) (F : Fr c.h₀ c.L s.heap m) (hsl : sc.names.lookup (Str.ofString "script") = some .local) (hms : m (Str.ofString "script") = some (.ref a))
    (hnc : sc.names.all (fun p => p.2 != .cell) = true) (hcl : c.fenv.cells = []) (hx : stores sc (Str.ofString "mark") = true) (hsw : swapsWith e1 (some (.Name (Str.ofString "mark") p0)) p1.line c.fenv = pure false)
    (h1 : ∀ (Q' : Value → Shared → Prop) E, (∀ (i : Int) t tk, 0 ≤ i → Q' (.int i t) { s with toks := tk }) → wpAny (model (gx x).prog (gx x).w) c.A (eval e1 c.fenv) Q' E s)
    (h2 : ∀ (i : Int) t h' tk (Q' : Bool → Shared → Prop) E, Fr c.h₀ c.L h' (fun y => if y = Str.ofString "mark" then some (.int i t) else m y) → (∀ b tk', Q' b { s with heap := h', toks := tk' }) → wpAny (model (gx x).prog (gx x).w) c.A (isTrue t1 c.fenv (eval t1 c.fenv)) Q' E { s with heap := h', toks := tk })
    (h3 : ∀ i : Int, 0 ≤ i → WS (gx x) 18 sc restS (jvm x sc a i) (fun _ => none) (fun fl _ _ => fl = .ret (.bool true)) → WT (gx x) 18 sc (.BoolOp .And rest2 p2) (jvm x sc a i) (fun _ => none) fun b σ => if b then WS (gx x) 18 sc body (jvm x sc a i) σ (fun fl _ _ => fl = .ret (.bool true)) else WS (gx x) 18 sc restS (jvm x sc a i) σ (fun fl _ _ => fl = .ret (.bool true)))
    (h4 : ∀ i : Int, 0 ≤ i → WS (gx x) 18 sc restS (jvm x sc a i) (fun _ => none) (fun fl _ _ => fl = .ret (.bool true)))
    (hk : ∀ m' h' tk, Fr c.h₀ c.L h' m' → Q (.ret (.bool true)) { s with heap := h', toks := tk }) :
    wpAny (model (gx x).prog (gx x).w) c.A (execs (.Assign [.Name (Str.ofString "mark") p0] e1 p1 :: .If (.BoolOp .And (t1 :: rest2) p2) body [] p3 :: restS) c.fenv) Q E s := by
  have hkl : c.fenv.kindOf (Str.ofString "script") = some .local := by unfold Env.kindOf; rw [es]; exact hsl
  have vo0 : VmOk (gx x) c.fenv c.L m [] ((argVM (gx x) sc []).set (Str.ofString "script") (.ref a)) := by
    intro y v e
    by_cases q : y = Str.ofString "script"
    · subst q
      simp only [VM.set, if_true] at e
      cases e
      exact ⟨by decide, .ref a, rfl, .loc hkl rfl hms⟩
    · simp only [VM.set, if_neg q] at e
      exact gvm_ok es e
  have hno : ∀ y, c.fenv.kindOf y ≠ some .cell := by
    intro y hy
    unfold Env.kindOf at hy
    rw [es] at hy
    have := List.all_eq_true.mp hnc _ (lookup_memE hy)
    simp at this
  have co0 : CellsOk c.fenv [] := ⟨fun y hy => absurd hy (hno y), fun y z b hy => by rw [hcl] at hy; cases hy⟩
  have hkm : c.fenv.kindOf (Str.ofString "mark") = some .local := by
    unfold stores at hx
    simp only [Bool.and_eq_true, Bool.or_eq_true, beq_iff_eq, Bool.not_eq_true'] at hx
    rcases hx.1 with h | h
    · unfold Env.kindOf; rw [es]; exact h
    · exact absurd (by unfold Env.kindOf; rw [es]; exact h) (hno (Str.ofString "mark"))
  refine wpAny_execs_cons (wpAny_Assign_Name (h1 _ _ fun i t tk hi => wpAny_storeName_local hkm F.ns (fun h' hn hs => ?_) (by rw [ok.kind]; rfl)) hsw)
  have F' := F.set hn hs
  have hms' : (fun y => if y = Str.ofString "mark" then some (.int i t) else m y) (Str.ofString "script") = some (.ref a) := hms
  have vo : VmOk (gx x) c.fenv c.L (fun y => if y = Str.ofString "mark" then some (.int i t) else m y) [] (jvm x sc a i) := by
    intro y v e
    by_cases q : y = Str.ofString "mark"
    · subst q
      simp only [VM.set, if_true] at e
      cases e
      exact ⟨by decide, .int i t, rfl, .loc hkm rfl (by simp)⟩
    · have e : ((argVM (gx x) sc []).set (Str.ofString "script") (.ref a)) y = some v := by unfold jvm at e; rw [VM.set] at e; rw [if_neg q] at e; exact e
      by_cases q2 : y = Str.ofString "script"
      · subst q2
        simp only [VM.set, if_true] at e
        cases e
        exact ⟨by decide, .ref a, rfl, .loc hkl rfl hms'⟩
      · simp only [VM.set, if_neg q2] at e
        exact gvm_ok es e
  have fin : ∀ {ss : List Stmt} {σ : AH} {tk : Nat} {h'' : Heap}, WS (gx x) 18 sc ss (jvm x sc a i) σ (fun fl _ _ => fl = .ret (.bool true)) → Inv (gx x) c (fun y => if y = Str.ofString "mark" then some (.int i t) else m y) [] σ h'' →
      wpAny (model (gx x).prog (gx x).w) c.A (execs ss c.fenv) Q E { s with heap := h'', toks := tk } := by
    intro ss σ tk h'' hw I
    refine hw c _ [] [] _ Q E ok es vo co0 I fun fl vm' σ' m' cells' h3 tk3 p vo' co' I' => ?_
    cases fl with
    | ret v => 
      have e : v = .bool true := by
        have := Flow.ret.inj p
        exact er_is_bool this
      subst e
      exact hk _ _ _ I'.fr
    | next => cases p
    | brk => cases p
    | cont => cases p
  refine wpAny_execs_cons (wpAny_If (isTrue_and' (whole' := eval (.BoolOp .And rest2 p2) c.fenv) (h2 i t h' _ _ _ F' fun b tk₂ => ?_)))
  cases b with
  | false => exact wpAny_execs_nil (fin (h4 i hi) (Inv.nil F'))
  | true =>
    refine h3 i hi (h4 i hi) c c.fenv _ [] _ _ E ok (ok.env es) vo (Inv.nil F') fun b σ' h'' tk'' p I' => ?_
    cases b with
    | false => exact wpAny_execs_nil (fin p I')
    | true =>
      refine p c _ [] [] _ _ E ok es vo co0 I' fun fl vm' σ' m' cells' h3 tk3 p vo' co' I'' => ?_
      cases fl with
      | ret v => 
        have e : v = .bool true := by
          have := Flow.ret.inj p
          exact er_is_bool this
        subst e
        exact hk _ _ _ I''.fr
      | next => cases p
      | brk => cases p
      | cont => cases p
theorem j_levels {a b : Int} (h1 : 1 ≤ a) (h2 : a ≤ 30) (h3 : 0 ≤ b) (h4 : b < a) : WCode (gx x) 17 893 [.int a 0, .int b 0] σ fun v _ => v = .bool true := by
  obtain ⟨many, rfl⟩ := Int.eq_ofNat_of_zero_le (Int.le_of_lt h1)
  obtain ⟨at_, rfl⟩ := Int.eq_ofNat_of_zero_le h3
  exact law_levels (by omega) (by omega) (by omega)
theorem j_classes {a b : Int} (h1 : 1 ≤ a) (h2 : a ≤ 550) (h3 : 0 ≤ b) (h4 : b < a) : WCode (gx x) 17 898 [.int a 0, .int b 0] σ fun v _ => v = .bool true := by
  obtain ⟨many, rfl⟩ := Int.eq_ofNat_of_zero_le (Int.le_of_lt h1)
  obtain ⟨at_, rfl⟩ := Int.eq_ofNat_of_zero_le h3
  exact law_classes (by omega) (by omega) (by omega)
end
-- J2
local macro_rules | `(tactic| k_qdec) => `(tactic| kernel_rfl)
theorem hl_hold : PySem.Challenge.rw_pq0492_01.Holds := by
  refine holds_law hl_well fun said => holds_open (q := qV) (loose := looseV) (Xt := xtF) (XP := XL qV []) (Yf := hkK.obs) (Ya := hkK.val) (YP := hkK.says) (N := 14950) hl_left hkK.of hkK.keeps
    (fun s e => xl_of s (Bool.and_eq_true_iff.mp e).1) XL.keeps (by rfl) (by rfl) (by rfl) (fun s e => recFacts_of (Bool.and_eq_true_iff.mp e).2) (by rfl) said (by kernel_rfl) ⟨rfl, rfl, rfl, rfl, rfl, by decide +kernel⟩ ?hw ?hc
  case hw => w_witness2
  clear said
  intro w s₀ s₁ mg mb G Y fa o pm cd doc dV kV ho hd hcd hD hmg hg args vals as hpre hlay hrd hwl hlo
  have KX : (KF w.params).In s₁.heap := kIn_of (K := KF) (as := KA) Y
  k_behind G ho hd hcd hD hmg hpre hlay hrd hwl hlo cd
  rename Fr _ _ _ _ => kF
  rename Top _ _ _ _ _ _ => kT
  rename Below _ _ _ _ => kB
  refine law_join (sc := fScope (st 75)) (x := ⟨w, qV, looseW qV looseV, ExcName.means s₀.heap, mg, mb⟩) (c := ⟨_, callerA, s₁.heap, s₁.heap, [], _⟩) ⟨kB, KX, kT, rfl, rfl, rfl, rfl, rfl, rfl, by show callerA.depth + 1 + 3 * 18 < recursionLimit; decide, by show callerA.units + 3 + 16 * 18 + 200 < cLine; decide⟩
    (by kernel_rfl) kF (by kernel_rfl) rfl (by kernel_rfl) rfl (by kernel_rfl) (by with_unfolding_all rfl) ?h1 ?h2 ?h3 ?h4 ?hk
  case h1 =>
    intro Q' E' hq
    k_steps
    · exact hq _ _ _ (by split <;> omega)
    · exact hq 0 _ _ (by omega)
  case h2 =>
    intro i t h' tk Q' E' F' hq
    clear kF
    k_steps
    all_goals exact hq _ _
  case h3 =>
    intro i hi hrest
    repeat walk_at "m"
    by_cases hlt : i < 2
    · rw [decide_eq_true hlt]
      repeat walk_at "m"
      refine callc (k := 17) (j_levels (a := 2 + i) (b := i) (by omega) (by omega) (by omega) (by omega)) (by decide) ?_
      rintro _ σ' rfl
      repeat walk_at "m"
      refine callc (k := 17) (j_classes (a := 3) (b := 1 + i) (by omega) (by omega) (by omega) (by omega)) (by decide) ?_
      rintro _ σ' rfl
      repeat walk_at "m"
      exact rfl
    · rw [decide_eq_false hlt]
      repeat walk_at "iteF"
      exact hrest
  case h4 =>
    intro i hi
    repeat walk_at "m"
    refine Bin.modInt (by decide) ?_
    repeat walk_at "m"
    have q1 : 0 ≤ (i.fdiv 2).fmod 3 := Int.fmod_nonneg_of_pos _ (by decide)
    have q2 : (i.fdiv 2).fmod 3 < 3 := Int.fmod_lt_of_pos _ (by decide)
    unfold PIf
    split
    · repeat walk_at "m"
      refine Bin.fdivInt (by decide) (PyProof.noPylong_of_log2 (by decide +kernel)) ?_
      repeat walk_at "m"
      refine Bin.modInt (by decide) ?_
      repeat walk_at "m"
      refine Bin.fdivInt (by decide) (PyProof.noPylong_of_log2 (by decide +kernel)) ?_
      repeat walk_at "m"
      refine Bin.modInt (by decide) ?_
      repeat walk_at "m"
      have q3 : 0 ≤ (i.fdiv 6).fmod 500 := Int.fmod_nonneg_of_pos _ (by decide)
      have q4 : (i.fdiv 6).fmod 500 < 500 := Int.fmod_lt_of_pos _ (by decide)
      refine callc (k := 17) (j_classes (a := 505 + (i.fdiv 2).fmod 3) (b := (i.fdiv 6).fmod 500) (by omega) (by omega) (by omega) (by omega)) (by decide) ?_
      rintro _ σ' rfl
      repeat walk_at "m"
      exact rfl
    · repeat walk_at "m"
      refine Bin.fdivInt (by decide) (PyProof.noPylong_of_log2 (by decide +kernel)) ?_
      repeat walk_at "m"
      refine Bin.modInt (by decide) ?_
      repeat walk_at "m"
      refine Bin.fdivInt (by decide) (PyProof.noPylong_of_log2 (by decide +kernel)) ?_
      repeat walk_at "m"
      refine Bin.modInt (by decide) ?_
      repeat walk_at "m"
      have q3 : 0 ≤ (i.fdiv 6).fmod 20 := Int.fmod_nonneg_of_pos _ (by decide)
      have q4 : (i.fdiv 6).fmod 20 < 20 := Int.fmod_lt_of_pos _ (by decide)
      refine callc (k := 17) (j_levels (a := 20 + (i.fdiv 2).fmod 3) (b := (i.fdiv 6).fmod 20) (by omega) (by omega) (by omega) (by omega)) (by decide) ?_
      rintro _ σ' rfl
      repeat walk_at "m"
      exact rfl
  case hk =>
    intro m' h' tk F'
    clear kF
    dsimp only
    wrow_close
end Mine
theorem PySem.Challenge.cw_pq0492_01_holds : PySem.Challenge.rw_pq0492_01.Holds :=
  Mine.hl_hold
