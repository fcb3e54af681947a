import PyProof.Rows.All
import Wide.All
import OpenK.AllK
import Wide.FinOn
import Lean
import PySem.Challenge.RW_pq0946_01
set_option Elab.async false
set_option linter.all false
set_option genInjectivity false
set_option genSizeOf false
set_option genSizeOfSpec false
set_option tactic.hygienic false
section
open PySem PySem.W PyProof.Rows PySem.Calls
set_option maxRecDepth 100000
namespace Mine.H
noncomputable abbrev pw : Program := PySem.Challenge.pw_pq0946_01
noncomputable def nthD {α : Type} (d : α) (l : List α) (n : Nat) : α := @List.rec α (fun _ => Nat → α) (fun _ => d) (fun x _ ih n => @Nat.rec (fun _ => α) x (fun m _ => ih m) n) l n
noncomputable def stA (i : Nat) : Stmt := nthD default pw.main.body i
noncomputable def subA (i j : Nat) : Stmt := match stA i with
  | .ClassDef _ _ _ b _ _ _ _ _ _ _ => nthD default b j
  | _ => default
noncomputable abbrev st (s : String) : Str := Str.ofString s
noncomputable abbrev vN : Value := .none
noncomputable abbrev vS (s : String) (t : Nat) : Value := .str (Str.ofString s) t
noncomputable abbrev vI (i : Int) : Value := .int i 0
noncomputable def tupO (l : List Value) : Obj := ⟨.type "tuple", none, .seq ⟨l⟩ 0, #[]⟩
noncomputable def fldO (c : Value) (l : List Value) : Obj := ⟨c, none, .fields ⟨l⟩, #[]⟩
noncomputable def en (P : Params) (s : String) (t : Nat) (v : Value) : DictEntry := ⟨PyData.keyHash P (Str.ofString s), .str (Str.ofString s) t, v⟩
noncomputable def dicO (c : Value) (l : List DictEntry) (n : Nat) : Obj := ⟨c, none, .dict ⟨l⟩ n, #[]⟩
noncomputable def fnO (c : Value) (s : Stmt) (ql : String) (g : Addr) (dv md cd : Value) : Obj := match s with
  | .FunctionDef n ps b _ _ _ sc _ _ _ => ⟨c, none, .func { name := n, qualname := Str.ofString ql, params := ps, body := .stmts b, scope := sc, globals := g, closure := [], defaults := dv, kwdefaults := .none, pyModule := md, code := cd }, #[]⟩
  | _ => default
noncomputable def nms : List String → Nat → List Value
  | [], _ => []
  | x :: r, t => vS x t :: nms r (t + 1)
noncomputable def def7 (s : Stmt) (nm ql : String) (a t : Nat) (ln na : Int) (xs : List String) (dv md : Value) : List Obj :=
  [tupO [], fldO .none [], tupO (nms xs (t + 3)), tupO [], fnO .none s ql 0 .none .none .none,
   fldO (.type "code") [vS nm t, vS ql (t + 1), vS "/claim/cut.py" (t + 2), vI ln, vI na, vI 0, vI 0, vI 3, .ref a, .bool true, vI 181, .ref (a + 1), vN, .ref (a + 2), .ref (a + 3), .ref (a + 4),
     vI (Int.ofNat (t + 3 + xs.length)), vI ln, vS "/claim/cut.py" (t + 4 + xs.length)],
   fnO (.type "function") s ql 3 dv md (.ref (a + 5))]
noncomputable def def5 (s : Stmt) (nm ql : String) (a t : Nat) (ln na : Int) (dv md : Value) : List Obj :=
  [tupO [], fldO .none [], fnO .none s ql 0 .none .none .none,
   fldO (.type "code") [vS nm t, vS ql (t + 1), vS "/claim/cut.py" (t + 2), vI ln, vI na, vI 0, vI 0, vI 3, .ref a, .bool true, vI 181, .ref (a + 1), vN, vN, vN, .ref (a + 2),
     vI (Int.ofNat (t + 3)), vI ln, vS "/claim/cut.py" (t + 4)],
   fnO (.type "function") s ql 3 dv md (.ref (a + 3))]
noncomputable def o39 : Obj := ⟨(.type "type"), none, (.cls ⟨st "PostError", [(.type "Exception")], [(.ref 39), (.type "Exception"), (.type "BaseException"), (.type "object")], 38, st "PostError", true, [], [(.ref 52)], false, none, false⟩), ⟨[some (.ref 15), none, some (vS "PostError" 189), some (vS "PostError" 197), some (.builtin "Exception.__new__"), some (.bool true)]⟩⟩
noncomputable def o2 (P : Params) : Obj := dicO vN [en P "type.__subclasses__.Exception.0" 225 (vI 39), en P "type.__subclasses__.Exception.n" 226 (vI 1)] 2
noncomputable def boots (P : Params) : List Obj := [boot_o_0 P, boot_o_1 P, o2 P, default, boot_o_4 P, boot_o_5 P, boot_o_6 P, boot_o_7 P, boot_o_8 P, boot_o_9 P, boot_o_10 P]
noncomputable def blk (P : Params) : List (Nat × List Obj) := [
  (433, def7 (stA 52) "law" "law" 433 760 352 1 ["script", "tape", "texts", "domain", "text"] vN (vS "law_pq0946_01" 687)),
  (428, def5 (stA 51) "_law_right" "_law_right" 428 754 333 2 vN (vS "law_pq0946_01" 687)),
  (421, def7 (stA 50) "_law_is_refused" "_law_is_refused" 421 747 327 1 ["one"] vN (vS "law_pq0946_01" 687)),
  (416, def5 (stA 49) "_law_heard" "_law_heard" 416 741 322 1 vN (vS "law_pq0946_01" 687)),
  (409, def7 (stA 48) "_law_octets" "_law_octets" 409 730 314 2 ["text", "joint", "row", "is_bare", "sign"] vN (vS "law_pq0946_01" 687)),
  (404, def5 (stA 47) "_law_is_bare" "_law_is_bare" 404 724 309 2 vN (vS "law_pq0946_01" 687)),
  (399, def5 (stA 46) "_law_texts" "_law_texts" 399 718 305 1 vN (vS "law_pq0946_01" 687)),
  (392, def7 (stA 45) "_law_sign" "_law_sign" 392 710 302 1 ["tape", "code"] vN (vS "law_pq0946_01" 687)),
  (385, def7 (stA 44) "_law_draw" "_law_draw" 385 701 295 2 ["tape", "many", "digit"] vN (vS "law_pq0946_01" 687)),
  (378, def7 (stA 43) "_law_tape" "_law_tape" 378 691 289 1 ["script", "digits", "seed", "cell"] vN (vS "law_pq0946_01" 687)),
  (373, def5 (stA 40) "write_addresses" "write_addresses" 373 681 278 1 vN (vS "postkeep.addresses" 390)),
  (366, def7 (stA 39) "mailbox_octets" "mailbox_octets" 366 673 273 1 ["mailbox", "plain"] vN (vS "postkeep.addresses" 390)),
  (359, def7 (stA 38) "domain_octets" "domain_octets" 359 665 266 1 ["text", "octets"] vN (vS "postkeep.addresses" 390)),
  (352, def7 (stA 37) "local_octets" "local_octets" 352 657 263 1 ["text", "octets"] vN (vS "postkeep.addresses" 390)),
  (347, def5 (stA 36) "phrase_octets" "phrase_octets" 347 651 258 1 vN (vS "postkeep.addresses" 390)),
  (342, def5 (stA 35) "is_dotted" "is_dotted" 342 645 256 1 vN (vS "postkeep.addresses" 390)),
  (335, def7 (stA 34) "read_addresses" "read_addresses" 335 636 250 1 ["octets", "reader", "found"] vN (vS "postkeep.addresses" 390)),
  (328, def7 (stA 33) "read_list" "read_list" 328 627 241 2 ["reader", "is_inner", "found"] vN (vS "postkeep.addresses" 390)),
  (321, def7 (stA 32) "read_place" "read_place" 321 616 230 2 ["reader", "is_inner", "words", "name", "found"] vN (vS "postkeep.addresses" 390)),
  (314, def7 (stA 31) "read_mailbox" "read_mailbox" 314 604 217 2 ["reader", "words", "name", "is_angle", "local", "domain"] vN (vS "postkeep.addresses" 390)),
  (307, def7 (stA 30) "pass_route" "pass_route" 307 597 210 1 ["reader"] vN (vS "postkeep.addresses" 390)),
  (300, def7 (stA 29) "domain_of" "domain_of" 300 589 200 1 ["reader", "parts"] vN (vS "postkeep.addresses" 390)),
  (293, def7 (stA 28) "local_of" "local_of" 293 575 189 2 ["reader", "words", "parts", "spot", "kind", "worth", "at", "is_point"] vN (vS "postkeep.addresses" 390)),
  (286, [tupO [(vS "at" 564), (vS "length" 565), (vS "tokens" 566)],
    dicO (.type "dict") [en P "__module__" 488 (vS "postkeep.addresses" 390), en P "__firstlineno__" 492 (.int 150 491), en P "__init__" 501 (.ref 229), en P "is_done" 508 (.ref 236), en P "kind" 515 (.ref 243), en P "stands" 523 (.ref 250), en P "take" 531 (.ref 257), en P "skip" 539 (.ref 264), en P "fault" 547 (.ref 271), en P "need" 555 (.ref 278), en P "words" 563 (.ref 285), en P "__static_attributes__" 567 (.ref 286), en P "__dict__" 569 (.ref 289), en P "__weakref__" 571 (.ref 290), en P "__doc__" 572 vN] 4,
    ⟨(.type "type"), none, (.cls ⟨st "PlaceReader", [(.type "object")], [(.ref 288), (.type "object")], 287, st "PlaceReader", true, [], [], false, none, false⟩), ⟨[none, none, some (vS "PlaceReader" 481), some (vS "PlaceReader" 489), some (.builtin "object.__new__"), some (.bool true)]⟩⟩,
    fldO (.type "getset_descriptor") [(vS "__dict__" 568), (.ref 288), (.builtin "function.__dict__"), (.builtin "function.__dict__#set")],
    fldO (.type "getset_descriptor") [(vS "__weakref__" 570), (.ref 288), (.builtin "ExceptionGroup.__weakref__"), vN],
    fldO (.type "super") [(.ref 288), (.ref 288), (.ref 288)],
    fldO (.type "builtin_function_or_method") [(.builtin "object.__init_subclass__"), (.ref 288)]]),
  (279, def7 (subA 27 8) "words" "PlaceReader.words" 279 556 184 1 ["self", "found"] vN (vS "postkeep.addresses" 390)),
  (272, def7 (subA 27 7) "need" "PlaceReader.need" 272 548 180 2 ["self", "sign"] vN (vS "postkeep.addresses" 390)),
  (265, def7 (subA 27 6) "fault" "PlaceReader.fault" 265 540 177 2 ["self", "what"] vN (vS "postkeep.addresses" 390)),
  (258, def7 (subA 27 5) "skip" "PlaceReader.skip" 258 532 171 2 ["self", "sign"] vN (vS "postkeep.addresses" 390)),
  (251, def7 (subA 27 4) "take" "PlaceReader.take" 251 524 166 1 ["self", "token"] vN (vS "postkeep.addresses" 390)),
  (244, def7 (subA 27 3) "stands" "PlaceReader.stands" 244 516 163 2 ["self", "sign"] vN (vS "postkeep.addresses" 390)),
  (237, def7 (subA 27 2) "kind" "PlaceReader.kind" 237 509 160 1 ["self"] vN (vS "postkeep.addresses" 390)),
  (230, def7 (subA 27 1) "is_done" "PlaceReader.is_done" 230 502 157 1 ["self"] vN (vS "postkeep.addresses" 390)),
  (223, def7 (subA 27 0) "__init__" "PlaceReader.__init__" 223 493 152 3 ["self", "tokens", "length"] vN (vS "postkeep.addresses" 390)),
  (216, [tupO [],
    fldO (.type "builtin_function_or_method") [(.builtin "type.__prepare__"), (.type "type")],
    dicO (.type "dict") [en P "__module__" 488 (vS "postkeep.addresses" 390), en P "__qualname__" 490 (vS "PlaceReader" 489), en P "__firstlineno__" 492 (.int 150 491), en P "__init__" 501 (.ref 229), en P "is_done" 508 (.ref 236), en P "kind" 515 (.ref 243), en P "stands" 523 (.ref 250), en P "take" 531 (.ref 257), en P "skip" 539 (.ref 264), en P "fault" 547 (.ref 271), en P "need" 555 (.ref 278), en P "words" 563 (.ref 285), en P "__static_attributes__" 567 (.ref 286)] 13,
    tupO [],
    fldO vN [(vI 152), (vI 4), (.ref 228), (vI 157), (vI 4), (.ref 235), (vI 160), (vI 4), (.ref 242), (vI 163), (vI 4), (.ref 249), (vI 166), (vI 4), (.ref 256), (vI 171), (vI 4), (.ref 263), (vI 177), (vI 4), (.ref 270), (vI 180), (vI 4), (.ref 277), (vI 184), (vI 4), (.ref 284)],
    fldO (.type "code") [(vS "PlaceReader" 483), (vS "PlaceReader" 484), (vS "/claim/cut.py" 485), (vI 150), (vI 0), (vI 0), (vI 0), (vI 0), (.ref 219), (.bool false), (vI 181), (.ref 220), vN, vN, vN, vN, (vI 486), (vI 150), (vS "/claim/cut.py" 487)],
    ⟨(.type "frame"), none, .plain, ⟨[some (.ref 221), some (.ref 3), some (.ref 218), none, some (vS "postkeep.addresses" 390), none, some (.ref 0)]⟩⟩]),
  (211, def5 (stA 26) "sign_octets" "sign_octets" 211 475 145 1 vN (vS "postkeep.addresses" 390)),
  (206, def5 (stA 25) "sign_text" "sign_text" 206 469 143 1 vN (vS "postkeep.addresses" 390)),
  (199, [tupO [(vS "members" 459), (vS "name" 460)],
    dicO (.type "dict") [en P "__module__" 439 (vS "postkeep.addresses" 390), en P "__firstlineno__" 443 (.int 135 442), en P "__init__" 452 (.ref 193), en P "told" 458 (.ref 198), en P "__static_attributes__" 461 (.ref 199), en P "__dict__" 463 (.ref 202), en P "__weakref__" 465 (.ref 203), en P "__doc__" 466 vN] 4,
    ⟨(.type "type"), none, (.cls ⟨st "Group", [(.type "object")], [(.ref 201), (.type "object")], 200, st "Group", true, [], [], false, none, false⟩), ⟨[none, none, some (vS "Group" 432), some (vS "Group" 440), some (.builtin "object.__new__"), some (.bool true)]⟩⟩,
    fldO (.type "getset_descriptor") [(vS "__dict__" 462), (.ref 201), (.builtin "function.__dict__"), (.builtin "function.__dict__#set")],
    fldO (.type "getset_descriptor") [(vS "__weakref__" 464), (.ref 201), (.builtin "ExceptionGroup.__weakref__"), vN],
    fldO (.type "super") [(.ref 201), (.ref 201), (.ref 201)],
    fldO (.type "builtin_function_or_method") [(.builtin "object.__init_subclass__"), (.ref 201)]]),
  (194, def5 (subA 24 1) "told" "Group.told" 194 453 141 1 vN (vS "postkeep.addresses" 390)),
  (187, def7 (subA 24 0) "__init__" "Group.__init__" 187 444 137 3 ["self", "name", "some"] vN (vS "postkeep.addresses" 390)),
  (173, [tupO [(vS "domain" 421), (vS "local" 422), (vS "name" 423)],
    dicO (.type "dict") [en P "__module__" 399 (vS "postkeep.addresses" 390), en P "__firstlineno__" 403 (.int 126 402), en P "__init__" 413 (.ref 165), en P "told" 420 (.ref 172), en P "__static_attributes__" 424 (.ref 173), en P "__dict__" 426 (.ref 176), en P "__weakref__" 428 (.ref 177), en P "__doc__" 429 vN] 4,
    ⟨(.type "type"), none, (.cls ⟨st "Mailbox", [(.type "object")], [(.ref 175), (.type "object")], 174, st "Mailbox", true, [], [], false, none, false⟩), ⟨[none, none, some (vS "Mailbox" 392), some (vS "Mailbox" 400), some (.builtin "object.__new__"), some (.bool true)]⟩⟩,
    fldO (.type "getset_descriptor") [(vS "__dict__" 425), (.ref 175), (.builtin "function.__dict__"), (.builtin "function.__dict__#set")],
    fldO (.type "getset_descriptor") [(vS "__weakref__" 427), (.ref 175), (.builtin "ExceptionGroup.__weakref__"), vN],
    fldO (.type "super") [(.ref 175), (.ref 175), (.ref 175)],
    fldO (.type "builtin_function_or_method") [(.builtin "object.__init_subclass__"), (.ref 175)],
    tupO [],
    fldO (.type "builtin_function_or_method") [(.builtin "type.__prepare__"), (.type "type")],
    dicO (.type "dict") [en P "__module__" 439 (vS "postkeep.addresses" 390), en P "__qualname__" 441 (vS "Group" 440), en P "__firstlineno__" 443 (.int 135 442), en P "__init__" 452 (.ref 193), en P "told" 458 (.ref 198), en P "__static_attributes__" 461 (.ref 199)] 6,
    tupO [],
    fldO vN [(vI 137), (vI 4), (.ref 192), (vI 141), (vI 4), (.ref 197)],
    fldO (.type "code") [(vS "Group" 434), (vS "Group" 435), (vS "/claim/cut.py" 436), (vI 135), (vI 0), (vI 0), (vI 0), (vI 0), (.ref 183), (.bool false), (vI 181), (.ref 184), vN, vN, vN, vN, (vI 437), (vI 135), (vS "/claim/cut.py" 438)],
    ⟨(.type "frame"), none, .plain, ⟨[some (.ref 185), some (.ref 3), some (.ref 182), none, some (vS "postkeep.addresses" 390), none, some (.ref 0)]⟩⟩]),
  (166, def7 (subA 23 1) "told" "Mailbox.told" 166 414 133 1 ["self"] vN (vS "postkeep.addresses" 390)),
  (159, def7 (subA 23 0) "__init__" "Mailbox.__init__" 159 404 128 4 ["self", "name", "local", "domain"] vN (vS "postkeep.addresses" 390)),
  (152, [tupO [],
    fldO (.type "builtin_function_or_method") [(.builtin "type.__prepare__"), (.type "type")],
    dicO (.type "dict") [en P "__module__" 399 (vS "postkeep.addresses" 390), en P "__qualname__" 401 (vS "Mailbox" 400), en P "__firstlineno__" 403 (.int 126 402), en P "__init__" 413 (.ref 165), en P "told" 420 (.ref 172), en P "__static_attributes__" 424 (.ref 173)] 6,
    tupO [],
    fldO vN [(vI 128), (vI 4), (.ref 164), (vI 133), (vI 4), (.ref 171)],
    fldO (.type "code") [(vS "Mailbox" 394), (vS "Mailbox" 395), (vS "/claim/cut.py" 396), (vI 126), (vI 0), (vI 0), (vI 0), (vI 0), (.ref 155), (.bool false), (vI 181), (.ref 156), vN, vN, vN, vN, (vI 397), (vI 126), (vS "/claim/cut.py" 398)],
    ⟨(.type "frame"), none, .plain, ⟨[some (.ref 157), some (.ref 3), some (.ref 154), none, some (vS "postkeep.addresses" 390), none, some (.ref 0)]⟩⟩]),
  (145, def7 (stA 21) "is_atom" "is_atom" 145 383 123 1 ["octets"] vN (vS "postkeep.tokens" 245)),
  (138, def7 (stA 20) "quoted_string" "quoted_string" 138 376 121 1 ["octets"] vN (vS "postkeep.tokens" 245)),
  (131, def7 (stA 19) "escaped_octets" "escaped_octets" 131 366 112 2 ["octets", "signs", "parts", "at"] vN (vS "postkeep.tokens" 245)),
  (124, def7 (stA 18) "phrase_of" "phrase_of" 124 353 100 1 ["tokens", "parts", "glued", "kind", "worth", "at", "is_point"] vN (vS "postkeep.tokens" 245)),
  (119, def5 (stA 17) "without_comments" "without_comments" 119 347 98 1 vN (vS "postkeep.tokens" 245)),
  (112, def7 (stA 16) "tokens_of" "tokens_of" 112 337 90 1 ["octets", "found", "at", "token"] vN (vS "postkeep.tokens" 245)),
  (105, def7 (stA 15) "past_white" "past_white" 105 328 83 2 ["data", "at", "behind"] vN (vS "postkeep.tokens" 245)),
  (98, def7 (stA 14) "token_at" "token_at" 98 317 66 2 ["data", "at", "sign", "worth", "behind"] vN (vS "postkeep.tokens" 245)),
  (91, def7 (stA 13) "atom_at" "atom_at" 91 308 61 2 ["data", "at", "end"] vN (vS "postkeep.tokens" 245)),
  (84, def7 (stA 12) "comment_at" "comment_at" 84 295 46 2 ["data", "begun", "parts", "depth", "at", "sign", "octets"] vN (vS "postkeep.tokens" 245)),
  (77, def7 (stA 11) "closed_at" "closed_at" 77 282 37 4 ["data", "begun", "closing", "barred", "parts", "at", "octets"] vN (vS "postkeep.tokens" 245)),
  (70, def7 (stA 10) "inside_at" "inside_at" 70 272 24 3 ["data", "at", "begun", "behind"] vN (vS "postkeep.tokens" 245)),
  (63, def7 (stA 9) "line_end" "line_end" 63 264 20 2 ["data", "at"] vN (vS "postkeep.tokens" 245)),
  (56, def7 (stA 8) "is_atom_code" "is_atom_code" 56 257 18 1 ["code"] vN (vS "postkeep.tokens" 245)),
  (37, [tupO [(vS "at" 219), (vS "what" 220)],
    dicO (.type "dict") [en P "__module__" 196 (vS "postkeep.errors" 187), en P "__firstlineno__" 200 (.int 2 199), en P "__init__" 211 (.ref 29), en P "told" 218 (.ref 36), en P "__static_attributes__" 221 (.ref 37), en P "__weakref__" 223 (.ref 40), en P "__doc__" 224 vN] 3,
    o39,
    fldO (.type "getset_descriptor") [(vS "__weakref__" 222), (.ref 39), (.builtin "ExceptionGroup.__weakref__"), vN],
    fldO (.type "super") [(.ref 39), (.ref 39), (.ref 39)],
    fldO (.type "builtin_function_or_method") [(.builtin "object.__init_subclass__"), (.ref 39)],
    tupO [(.ref 39)],
    fldO (.type "builtin_function_or_method") [(.builtin "type.__prepare__"), (.type "type")],
    dicO (.type "dict") [en P "__module__" 236 (vS "postkeep.errors" 187), en P "__qualname__" 238 (vS "WordFault" 237), en P "__firstlineno__" 240 (.int 11 239), en P "__static_attributes__" 241 (.ref 50)] 4,
    tupO [],
    fldO vN [],
    fldO (.type "code") [(vS "WordFault" 231), (vS "WordFault" 232), (vS "/claim/cut.py" 233), (vI 11), (vI 0), (vI 0), (vI 0), (vI 0), (.ref 46), (.bool false), (vI 181), (.ref 47), vN, vN, vN, vN, (vI 234), (vI 11), (vS "/claim/cut.py" 235)],
    ⟨(.type "frame"), none, .plain, ⟨[some (.ref 48), some (.ref 3), some (.ref 45), none, some (vS "postkeep.errors" 187), none, some (.ref 0)]⟩⟩,
    tupO [],
    dicO (.type "dict") [en P "__module__" 236 (vS "postkeep.errors" 187), en P "__firstlineno__" 240 (.int 11 239), en P "__static_attributes__" 241 (.ref 50), en P "__doc__" 242 vN] 2,
    ⟨(.type "type"), none, (.cls ⟨st "WordFault", [(.ref 39)], [(.ref 52), (.ref 39), (.type "Exception"), (.type "BaseException"), (.type "object")], 51, st "WordFault", true, [], [], false, none, false⟩), ⟨[some (.ref 43), none, some (vS "WordFault" 229), some (vS "WordFault" 237), some (.builtin "Exception.__new__"), some (.bool true)]⟩⟩,
    fldO (.type "super") [(.ref 52), (.ref 52), (.ref 52)],
    fldO (.type "builtin_function_or_method") [(.builtin "object.__init_subclass__"), (.ref 52)],
    tupO [(.int 0 253), (.int 10 254), (.int 13 255)]]),
  (30, def7 (subA 1 1) "told" "PostError.told" 30 212 9 1 ["self"] vN (vS "postkeep.errors" 187)),
  (23, def7 (subA 1 0) "__init__" "PostError.__init__" 23 203 4 3 ["self", "what", "at"] (.ref 22) (vS "postkeep.errors" 187)),
  (11, [tupO [],
    default,
    fldO (.type "code") [(vS "<module>" 182), (vS "<module>" 183), (vS "/claim/cut.py" 184), (vI 1), (vI 0), (vI 0), (vI 0), (vI 0), (.ref 11), (.bool false), (vI 181), (.ref 12), vN, vN, vN, vN, (vI 185), (vI 1), (vS "/claim/cut.py" 186)],
    ⟨(.type "frame"), none, .plain, ⟨[some (.ref 13), some (.ref 3), some (.ref 3), none, some (vS "__main__" 164), none, some (.ref 0)]⟩⟩,
    tupO [(.type "Exception")],
    fldO (.type "builtin_function_or_method") [(.builtin "type.__prepare__"), (.type "type")],
    dicO (.type "dict") [en P "__module__" 196 (vS "postkeep.errors" 187), en P "__qualname__" 198 (vS "PostError" 197), en P "__firstlineno__" 200 (.int 2 199), en P "__init__" 211 (.ref 29), en P "told" 218 (.ref 36), en P "__static_attributes__" 221 (.ref 37)] 6,
    tupO [],
    fldO vN [(vI 4), (vI 4), (.ref 28), (vI 9), (vI 4), (.ref 35)],
    fldO (.type "code") [(vS "PostError" 191), (vS "PostError" 192), (vS "/claim/cut.py" 193), (vI 2), (vI 0), (vI 0), (vI 0), (vI 0), (.ref 18), (.bool false), (vI 181), (.ref 19), vN, vN, vN, vN, (vI 194), (vI 2), (vS "/claim/cut.py" 195)],
    ⟨(.type "frame"), none, .plain, ⟨[some (.ref 20), some (.ref 3), some (.ref 17), none, some (vS "postkeep.errors" 187), none, some (.ref 0)]⟩⟩,
    tupO [(.int (-1) 202)]]),
  (0, boots P)]
noncomputable def entL (P : Params) : List DictEntry := [
  en P "__doc__" 166 vN,
  en P "__package__" 167 vN,
  en P "__loader__" 168 (.builtin "__main__.__loader__#opaque"),
  en P "__spec__" 169 vN,
  en P "__annotations__" 170 (.ref 6),
  en P "__builtins__" 171 (.ref 4),
  en P "__file__" 173 (vS "/claim/cut.py" 172),
  en P "__cached__" 174 vN,
  en P "PostError" 228 (.ref 39),
  en P "WordFault" 244 (.ref 52),
  en P "MOST_DEPTH" 248 (.int 20 247),
  en P "SIGNS" 250 (.bytes ⟨[60, 62, 64, 44, 59, 58, 46, 92]⟩ 249),
  en P "ATOM_SIGNS" 252 (.bytes ⟨[33, 35, 36, 37, 38, 39, 42, 43, 45, 47, 61, 63, 94, 95, 96, 123, 124, 125, 126]⟩ 251),
  en P "NEVER_ESCAPED" 256 (.ref 55),
  en P "is_atom_code" 263 (.ref 62),
  en P "line_end" 271 (.ref 69),
  en P "inside_at" 281 (.ref 76),
  en P "closed_at" 294 (.ref 83),
  en P "comment_at" 307 (.ref 90),
  en P "atom_at" 316 (.ref 97),
  en P "token_at" 327 (.ref 104),
  en P "past_white" 336 (.ref 111),
  en P "tokens_of" 346 (.ref 118),
  en P "without_comments" 352 (.ref 123),
  en P "phrase_of" 365 (.ref 130),
  en P "escaped_octets" 375 (.ref 137),
  en P "quoted_string" 382 (.ref 144),
  en P "is_atom" 389 (.ref 151),
  en P "Mailbox" 431 (.ref 175),
  en P "Group" 468 (.ref 201),
  en P "sign_text" 474 (.ref 210),
  en P "sign_octets" 480 (.ref 215),
  en P "PlaceReader" 574 (.ref 288),
  en P "local_of" 588 (.ref 299),
  en P "domain_of" 596 (.ref 306),
  en P "pass_route" 603 (.ref 313),
  en P "read_mailbox" 615 (.ref 320),
  en P "read_place" 626 (.ref 327),
  en P "read_list" 635 (.ref 334),
  en P "read_addresses" 644 (.ref 341),
  en P "is_dotted" 650 (.ref 346),
  en P "phrase_octets" 656 (.ref 351),
  en P "local_octets" 664 (.ref 358),
  en P "domain_octets" 672 (.ref 365),
  en P "mailbox_octets" 680 (.ref 372),
  en P "write_addresses" 686 (.ref 377),
  en P "_law_barred" 690 (vS "()<>[]:;@\\,.\"" 689),
  en P "_law_tape" 700 (.ref 384),
  en P "_law_draw" 709 (.ref 391),
  en P "_law_sign" 717 (.ref 398),
  en P "_law_texts" 723 (.ref 403),
  en P "_law_is_bare" 729 (.ref 408),
  en P "_law_octets" 740 (.ref 415),
  en P "_law_heard" 746 (.ref 420),
  en P "_law_is_refused" 753 (.ref 427),
  en P "_law_right" 759 (.ref 432),
  en P "law" 770 (.ref 439)]
noncomputable def fldL : List Value := [(vI 2), (vI 0), (.ref 20), (vI 11), (vI 0), (.ref 48), (vI 18), (vI 0), (.ref 61), (vI 20), (vI 0), (.ref 68), (vI 24), (vI 0), (.ref 75), (vI 37), (vI 0), (.ref 82), (vI 46), (vI 0), (.ref 89), (vI 61), (vI 0), (.ref 96), (vI 66), (vI 0), (.ref 103), (vI 83), (vI 0), (.ref 110), (vI 90), (vI 0), (.ref 117), (vI 98), (vI 0), (.ref 122), (vI 100), (vI 0), (.ref 129), (vI 112), (vI 0), (.ref 136), (vI 121), (vI 0), (.ref 143), (vI 123), (vI 0), (.ref 150), (vI 126), (vI 0), (.ref 157), (vI 135), (vI 0), (.ref 185), (vI 143), (vI 0), (.ref 209), (vI 145), (vI 0), (.ref 214), (vI 150), (vI 0), (.ref 221), (vI 189), (vI 0), (.ref 298), (vI 200), (vI 0), (.ref 305), (vI 210), (vI 0), (.ref 312), (vI 217), (vI 0), (.ref 319), (vI 230), (vI 0), (.ref 326), (vI 241), (vI 0), (.ref 333), (vI 250), (vI 0), (.ref 340), (vI 256), (vI 0), (.ref 345), (vI 258), (vI 0), (.ref 350), (vI 263), (vI 0), (.ref 357), (vI 266), (vI 0), (.ref 364), (vI 273), (vI 0), (.ref 371), (vI 278), (vI 0), (.ref 376), (vI 289), (vI 0), (.ref 383), (vI 295), (vI 0), (.ref 390), (vI 302), (vI 0), (.ref 397), (vI 305), (vI 0), (.ref 402), (vI 309), (vI 0), (.ref 407), (vI 314), (vI 0), (.ref 414), (vI 322), (vI 0), (.ref 419), (vI 327), (vI 0), (.ref 426), (vI 333), (vI 0), (.ref 431), (vI 352), (vI 0), (.ref 438)]
noncomputable def fnd (b : Nat) (l : List (Nat × List Obj)) : Obj := @List.rec (Nat × List Obj) (fun _ => Obj) default (fun x _ ih => match Nat.ble x.1 b with
  | true => nthD default x.2 (b - x.1)
  | false => ih) l
structure Stg where
  n : Nat
  t : Nat
  e : Nat
  nm : Value
  f : Nat
noncomputable def ob (s : Stg) (P : Params) (b : Nat) : Obj := match Nat.beq b 3 with
  | true => dicO (.type "dict") (en P "__name__" 165 s.nm :: List.take (s.e - 1) (entL P)) s.e
  | false => match Nat.beq b 12 with
    | true => fldO .none (List.take s.f fldL)
    | false => fnd b (blk P)
noncomputable def tr (f : Nat → Obj) (n : Nat) (k : Nat) : Nat → Nat → BT := @Nat.rec (fun _ => Nat → Nat → BT) (fun _ _ => .nil) (fun _ ih a b => match Nat.blt b n with
  | true => .node (f b) (ih (2 * a) (a + b)) (ih (2 * a) (2 * a + b))
  | false => .nil) k
noncomputable def Stg.T (s : Stg) (w : World) (os : OsState) : SharedT := ⟨tr (ob s w.params) s.n 10 1 0, s.n, {}, ⟨[]⟩, boot_drawn, s.t, os⟩
noncomputable def envP : Env := { scope := pw.main.scope, locals := mainNs, globals := mainNs, cells := [], code := .ref 13, frame := some 14 }
noncomputable def bodP : List Stmt := behindTheImports pw
noncomputable def codP : Code := .body bodP envP
noncomputable def heapA (P : Params) : Heap := ⟨⟨[boot_o_0 P, boot_o_1 P, boot_o_2 P, boot_o_3 P, boot_o_4 P, boot_o_5 P, boot_o_6 P, boot_o_7 P, boot_o_8 P, boot_o_9 P, boot_o_10 P, tupO [], fldO .none [], fnd 13 (blk P), fnd 14 (blk P)]⟩, {}⟩
noncomputable def p0 : Pos := ⟨0, 0, 0, 0⟩
noncomputable def treeA (P : Params) (b : Nat) : Obj := match Nat.ble 13 b with
  | true => fnd b (blk P)
  | false => nthD default [boot_o_0 P, boot_o_1 P, boot_o_2 P, boot_o_3 P, boot_o_4 P, boot_o_5 P, boot_o_6 P, boot_o_7 P, boot_o_8 P, boot_o_9 P, boot_o_10 P, tupO [], fldO .none []] b
noncomputable def TA (w : World) (os : OsState) : SharedT := ⟨tr (treeA w.params) 15 10 1 0, 15, {}, ⟨[]⟩, boot_drawn, 187, os⟩
noncomputable def g1 : Stg := ⟨56, 257, 15, (vS "postkeep.tokens" 245), 6⟩
noncomputable def q1 : Pos := ⟨17, 0, 17, 13⟩
noncomputable def g2 : Stg := ⟨105, 328, 22, (vS "postkeep.tokens" 245), 27⟩
noncomputable def q2 : Pos := ⟨66, 0, 82, 40⟩
noncomputable def g3 : Stg := ⟨152, 390, 29, (vS "postkeep.tokens" 245), 48⟩
noncomputable def q3 : Pos := ⟨123, 0, 124, 67⟩
noncomputable def g4 : Stg := ⟨206, 469, 31, (vS "postkeep.addresses" 390), 54⟩
noncomputable def q4 : Pos := ⟨135, 0, 142, 86⟩
noncomputable def g5 : Stg := ⟨293, 575, 34, (vS "postkeep.addresses" 390), 63⟩
noncomputable def q5 : Pos := ⟨150, 0, 188, 20⟩
noncomputable def g6 : Stg := ⟨342, 645, 41, (vS "postkeep.addresses" 390), 84⟩
noncomputable def q6 : Pos := ⟨250, 0, 255, 16⟩
noncomputable def g7 : Stg := ⟨378, 687, 47, (vS "postkeep.addresses" 390), 102⟩
noncomputable def q7 : Pos := ⟨278, 0, 286, 28⟩
noncomputable def g8 : Stg := ⟨409, 730, 53, (vS "law_pq0946_01" 687), 117⟩
noncomputable def q8 : Pos := ⟨309, 0, 313, 15⟩
noncomputable def g9 : Stg := ⟨440, 771, 58, (vS "law_pq0946_01" 687), 132⟩
noncomputable def q9 : Pos := ⟨352, 0, 359, 15⟩
noncomputable def heapF (P : Params) : Heap := absHeap (tr (ob g9 P) 440 10 1 0) 440 {}
noncomputable def lawD : DefRec := match stA 52 with
  | .FunctionDef n a b _ _ _ sc _ _ pos => ⟨n, a, b, sc, pos⟩
  | _ => ⟨default, default, [], default, p0⟩
noncomputable def kAs : List Addr := [2, 3, 15, 22, 23, 25, 26, 28, 29, 30, 32, 33, 35, 36, 37, 38, 39, 40, 43, 50, 51, 52, 55, 56, 58, 59, 61, 62, 63, 65, 66, 68, 69, 70, 72, 73, 75, 76, 77, 79, 80, 82, 83, 84, 86, 87, 89, 90, 91, 93, 94, 96, 97, 98, 100, 101, 103, 104, 105, 107, 108, 110, 111, 112, 114, 115, 117, 118, 119, 122, 123, 124, 126, 127, 129, 130, 131, 133, 134, 136, 137, 138, 140, 141, 143, 144, 145, 147, 148, 150, 151, 159, 161, 162, 164, 165, 166, 168, 169, 171, 172, 173, 174, 175, 176, 177, 187, 189, 190, 192, 193, 194, 197, 198, 199, 200, 201, 202, 203, 206, 209, 210, 211, 214, 215, 223, 225, 226, 228, 229, 230, 232, 233, 235, 236, 237, 239, 240, 242, 243, 244, 246, 247, 249, 250, 251, 253, 254, 256, 257, 258, 260, 261, 263, 264, 265, 267, 268, 270, 271, 272, 274, 275, 277, 278, 279, 281, 282, 284, 285, 286, 287, 288, 289, 290, 293, 295, 296, 298, 299, 300, 302, 303, 305, 306, 307, 309, 310, 312, 313, 314, 316, 317, 319, 320, 321, 323, 324, 326, 327, 328, 330, 331, 333, 334, 335, 337, 338, 340, 341, 342, 345, 346, 347, 350, 351, 352, 354, 355, 357, 358, 359, 361, 362, 364, 365, 366, 368, 369, 371, 372, 373, 376, 377, 378, 380, 381, 383, 384, 385, 387, 388, 390, 391, 392, 394, 395, 397, 398, 399, 402, 403, 404, 407, 408, 409, 411, 412, 414, 415, 416, 419, 420, 421, 423, 424, 426, 427, 428, 431, 432, 433, 435, 436, 438, 439]
noncomputable def Kf (P : Params) : Frag := kAs.map fun a => (a, ob g9 P a)
theorem kf_as : ∀ P, kAs = (Kf P).map (·.1) := fun P => by kernel_rfl
noncomputable abbrev hk : Hook := kHook Kf kAs kf_as
noncomputable abbrev vw : Program := view pw [52]
noncomputable abbrev ann0 : Option Value := some (.ref 6)
theorem h_block (w : World) (os : OsState) : segRun treeTable pw w 11 ann0 1 1 ⟨heapA w.params, ⟨[]⟩, boot_drawn, 187, os⟩ (blockOf bodP envP codP p0 [topFrame p0]) = some (.next, (TA w os).abs, codP, p0) := by kernel_rfl
theorem h_pre (w : World) (os : OsState) : topGo treeTable pw w 11 ann0 12 ⟨boot_heap w.params, ⟨[]⟩, boot_drawn, boot_toks, os⟩ (topStub pw) = some (⟨heapA w.params, ⟨[]⟩, boot_drawn, 187, os⟩, ⟨denote treeTable codP, codP, p0, [topFrame p0]⟩) := by kernel_rfl
theorem h_1 (w : World) (os : OsState) : segRunT treeTable pw w 11 ann0 1 540 (TA w os) (piecesOf ((bodP.drop 0).take 8) envP codP p0 [topFrame p0]) = some (.next, g1.T w os, codP, q1) := by kernel_rfl
theorem h_2 (w : World) (os : OsState) : segRunT treeTable pw w 11 ann0 1 226 (g1.T w os) (piecesOf ((bodP.drop 8).take 7) envP codP q1 [topFrame p0]) = some (.next, g2.T w os, codP, q2) := by kernel_rfl
theorem h_3 (w : World) (os : OsState) : segRunT treeTable pw w 11 ann0 1 215 (g2.T w os) (piecesOf ((bodP.drop 15).take 7) envP codP q2 [topFrame p0]) = some (.next, g3.T w os, codP, q3) := by kernel_rfl
theorem h_4 (w : World) (os : OsState) : segRunT treeTable pw w 11 ann0 1 519 (g3.T w os) (piecesOf ((bodP.drop 22).take 3) envP codP q3 [topFrame p0]) = some (.next, g4.T w os, codP, q4) := by kernel_rfl
theorem h_5 (w : World) (os : OsState) : segRunT treeTable pw w 11 ann0 1 532 (g4.T w os) (piecesOf ((bodP.drop 25).take 3) envP codP q4 [topFrame p0]) = some (.next, g5.T w os, codP, q5) := by kernel_rfl
theorem h_6 (w : World) (os : OsState) : segRunT treeTable pw w 11 ann0 1 225 (g5.T w os) (piecesOf ((bodP.drop 28).take 7) envP codP q5 [topFrame p0]) = some (.next, g6.T w os, codP, q6) := by kernel_rfl
theorem h_7 (w : World) (os : OsState) : segRunT treeTable pw w 11 ann0 1 169 (g6.T w os) (piecesOf ((bodP.drop 35).take 6) envP codP q6 [topFrame p0]) = some (.next, g7.T w os, codP, q7) := by kernel_rfl
theorem h_8 (w : World) (os : OsState) : segRunT treeTable pw w 11 ann0 1 164 (g7.T w os) (piecesOf ((bodP.drop 41).take 7) envP codP q7 [topFrame p0]) = some (.next, g8.T w os, codP, q8) := by kernel_rfl
theorem h_9 (w : World) (os : OsState) : segRunT treeTable pw w 11 ann0 1 148 (g8.T w os) (piecesOf ((bodP.drop 48).take 5) envP codP q8 [topFrame p0]) = some (.next, g9.T w os, codP, q9) := by kernel_rfl
theorem h_fin (w : World) (os : OsState) : topRun treeTable pw w 11 ann0 2 (g9.T w os).abs (restOf (bodP.drop 53) envP codP q9 [topFrame p0]) = some ⟨heapF w.params, ⟨[]⟩, boot_drawn, 771, os⟩ := by kernel_rfl
theorem pc {w : World} {b : List Stmt} {i k n N : Nat} {s s' : SharedT} {r : Shared} {env : Env} {c : Code} {pos p' q : Pos} (h : segRunT treeTable pw w 11 ann0 1 n s (piecesOf ((b.drop i).take k) env c pos [topFrame q]) = some (.next, s', c, p'))
    (h2 : topRun treeTable pw w 11 ann0 N s'.abs (restOf (b.drop (i + k)) env c p' [topFrame q]) = some r) : topRun treeTable pw w 11 ann0 (n + N) s.abs (restOf (b.drop i) env c pos [topFrame q]) = some r := by
  have := piece_app (segRun_of h) h2
  rwa [← List.drop_drop, List.take_append_drop] at this
theorem r_10 (w : World) (os : OsState) : topRun treeTable pw w 11 ann0 2 (g9.T w os).abs (restOf (bodP.drop 53) envP codP q9 [topFrame p0]) = some ⟨heapF w.params, ⟨[]⟩, boot_drawn, 771, os⟩ := h_fin w os
theorem r_9 (w : World) (os : OsState) : topRun treeTable pw w 11 ann0 150 (g8.T w os).abs (restOf (bodP.drop 48) envP codP q8 [topFrame p0]) = some ⟨heapF w.params, ⟨[]⟩, boot_drawn, 771, os⟩ := pc (n := 148) (N := 2) (i := 48) (k := 5) (h_9 w os) (r_10 w os)
theorem r_8 (w : World) (os : OsState) : topRun treeTable pw w 11 ann0 314 (g7.T w os).abs (restOf (bodP.drop 41) envP codP q7 [topFrame p0]) = some ⟨heapF w.params, ⟨[]⟩, boot_drawn, 771, os⟩ := pc (n := 164) (N := 150) (i := 41) (k := 7) (h_8 w os) (r_9 w os)
theorem r_7 (w : World) (os : OsState) : topRun treeTable pw w 11 ann0 483 (g6.T w os).abs (restOf (bodP.drop 35) envP codP q6 [topFrame p0]) = some ⟨heapF w.params, ⟨[]⟩, boot_drawn, 771, os⟩ := pc (n := 169) (N := 314) (i := 35) (k := 6) (h_7 w os) (r_8 w os)
theorem r_6 (w : World) (os : OsState) : topRun treeTable pw w 11 ann0 708 (g5.T w os).abs (restOf (bodP.drop 28) envP codP q5 [topFrame p0]) = some ⟨heapF w.params, ⟨[]⟩, boot_drawn, 771, os⟩ := pc (n := 225) (N := 483) (i := 28) (k := 7) (h_6 w os) (r_7 w os)
theorem r_5 (w : World) (os : OsState) : topRun treeTable pw w 11 ann0 1240 (g4.T w os).abs (restOf (bodP.drop 25) envP codP q4 [topFrame p0]) = some ⟨heapF w.params, ⟨[]⟩, boot_drawn, 771, os⟩ := pc (n := 532) (N := 708) (i := 25) (k := 3) (h_5 w os) (r_6 w os)
theorem r_4 (w : World) (os : OsState) : topRun treeTable pw w 11 ann0 1759 (g3.T w os).abs (restOf (bodP.drop 22) envP codP q3 [topFrame p0]) = some ⟨heapF w.params, ⟨[]⟩, boot_drawn, 771, os⟩ := pc (n := 519) (N := 1240) (i := 22) (k := 3) (h_4 w os) (r_5 w os)
theorem r_3 (w : World) (os : OsState) : topRun treeTable pw w 11 ann0 1974 (g2.T w os).abs (restOf (bodP.drop 15) envP codP q2 [topFrame p0]) = some ⟨heapF w.params, ⟨[]⟩, boot_drawn, 771, os⟩ := pc (n := 215) (N := 1759) (i := 15) (k := 7) (h_3 w os) (r_4 w os)
theorem r_2 (w : World) (os : OsState) : topRun treeTable pw w 11 ann0 2200 (g1.T w os).abs (restOf (bodP.drop 8) envP codP q1 [topFrame p0]) = some ⟨heapF w.params, ⟨[]⟩, boot_drawn, 771, os⟩ := pc (n := 226) (N := 1974) (i := 8) (k := 7) (h_2 w os) (r_3 w os)
theorem r_1 (w : World) (os : OsState) : topRun treeTable pw w 11 ann0 2740 (TA w os).abs (restOf (bodP.drop 0) envP codP p0 [topFrame p0]) = some ⟨heapF w.params, ⟨[]⟩, boot_drawn, 771, os⟩ := pc (n := 540) (N := 2200) (i := 0) (k := 8) (h_1 w os) (r_2 w os)
theorem r_b (w : World) (os : OsState) : topRun treeTable pw w 11 ann0 2741 ⟨heapA w.params, ⟨[]⟩, boot_drawn, 187, os⟩ ⟨denote treeTable codP, codP, p0, [topFrame p0]⟩ = some ⟨heapF w.params, ⟨[]⟩, boot_drawn, 771, os⟩ := piece_block (n := 1) (N := 2740) (h_block w os) (r_1 w os)
theorem r_a (w : World) (os : OsState) : topRun treeTable pw w 11 ann0 2753 ⟨boot_heap w.params, ⟨[]⟩, boot_drawn, boot_toks, os⟩ (topStub pw) = some ⟨heapF w.params, ⟨[]⟩, boot_drawn, 771, os⟩ := go_top (n := 12) (N := 2741) (h_pre w os) (r_b w os)
noncomputable def NN : Nat := 5584
noncomputable abbrev lCl : OpenLaw := PySem.Challenge.rw_pq0946_01
noncomputable def loo : List Str := [st "PostError", st "WordFault", st "MOST_DEPTH", st "SIGNS", st "ATOM_SIGNS", st "NEVER_ESCAPED", st "is_atom_code", st "line_end", st "inside_at", st "closed_at", st "comment_at", st "atom_at", st "token_at", st "past_white", st "tokens_of", st "without_comments", st "phrase_of", st "escaped_octets", st "quoted_string", st "is_atom", st "Mailbox", st "Group", st "sign_text", st "sign_octets", st "PlaceReader", st "local_of", st "domain_of", st "pass_route", st "read_mailbox", st "read_place", st "read_list", st "read_addresses", st "is_dotted", st "phrase_octets", st "local_octets", st "domain_octets", st "mailbox_octets", st "write_addresses", st "_law_barred", st "_law_tape", st "_law_draw", st "_law_sign", st "_law_texts", st "_law_is_bare", st "_law_octets", st "_law_heard", st "_law_is_refused", st "_law_right"]
noncomputable abbrev xt : Shared → Bool := fun s => xlAt vw [] s && recOk lCl.row.toRowW.records s
theorem l_open : ∀ w : World, (fencedOpening treeTable pw w NN).map (fun s => (s.heap, s.gens, s.drawn, s.toks)) = some (boot_heap w.params, ⟨[]⟩, boot_drawn, boot_toks) :=
  boot_open (by kernel_rfl) (by kernel_rfl) (fun s => by kernel_rfl)
theorem l_size (w : World) : ((boot_heap w.params).isNs mainGlobals && (#[] : Array GenState).size == 0, (boot_heap w.params).objs.size, (boot_heap w.params).nsMap mainGlobals "__annotations__") = (true, 11, ann0) := by kernel_rfl
noncomputable abbrev fS (w : World) (os : OsState) : Shared := ⟨heapF w.params, ⟨[]⟩, boot_drawn, 771, os⟩
theorem l_st (w : World) : staticsOk (importedModules pw.main.body) (boot_heap w.params) (heapF w.params) = true := by kernel_rfl
theorem l_nb (w : World) : namesBound pw (heapF w.params) = true := by kernel_rfl
theorem l_lk (w : World) : laidKept (boot_heap w.params) (heapF w.params) = true := by kernel_rfl
theorem l_seen (w : World) (os : OsState) : openSeen vw loo (importedModules pw.main.body) xt true (fS w os) = openGood vw loo := by kernel_rfl
theorem l_k (w : World) (os : OsState) : hk.obs (fS w os) = hk.val w := by kernel_rfl
theorem l_both (w : World) (os : OsState) : (staticsOk (importedModules pw.main.body) (boot_heap w.params) (heapF w.params) && namesBound pw (heapF w.params) && gensDone (fS w os) && laidKept (boot_heap w.params) (heapF w.params)) = true := by
  rw [l_st, l_nb, l_lk]; rfl
theorem left : LeftO pw vw loo xt hk.obs hk.val NN := LeftO.of_pieces (m₀ := 11) (ann := ann0) (M := 2753) l_open l_size r_a (by kernel_rfl)
  (fun w => funext fun os => Prod.ext (l_both w os) (Prod.ext (l_seen w os) (l_k w os)))
theorem l_said : lCl.wellSaid = true := by kernel_rfl
theorem l_ok : (chainsOk vw && opensWell lCl.row.toRowW.prog && (frees lCl.row.toRowW && lCl.row.toRowW.within.isEmpty)) = true := by kernel_rfl
theorem l_hdef : defOf vw lCl.row.name = some (lawD, []) := by kernel_rfl
theorem l_hp : lCl.row.prog.theDef lCl.row.name = some (lawD.params, lawD.body, lawD.scope) := by kernel_rfl
theorem l_hk : kwWritten? lawD.params.kwonlyargs lawD.params.kw_defaults = some [] := by kernel_rfl
theorem l_free : lCl.row.toRowW.prog.bare := ⟨rfl, rfl, rfl, rfl, rfl, by decide +kernel⟩
theorem l_wit : PySem.Challenge.rw_pq0946_01.row.toRowW.promised := by w_witness2
theorem hd (call : WalkO vw loo (XL vw []) hk.says lCl.row.toRowW lawD [] fun f vs => PySem.call f vs) : lCl.Holds :=
  holds_law l_said fun said => holds_open (r := lCl.row) (q := vw) (loose := loo) (Xt := xt) (XP := XL vw []) (Yf := hk.obs) (Ya := hk.val) (YP := hk.says) (N := NN) left hk.of hk.keeps (fun s e => xl_of s (Bool.and_eq_true_iff.mp e).1) XL.keeps
    l_hdef l_hp l_hk (fun s e => recFacts_of (Bool.and_eq_true_iff.mp e).2) rfl said l_ok l_free l_wit call
end Mine.H
end
section
set_option genCtorIdx false
namespace Mine
inductive QE | n (k : Nat) | v (i : Nat) | a (x y : QE) | m (k : Nat) (x : QE) | r (x : QE) (k : Nat)
inductive QH | z | h (k : Nat) (x y : QE) (t : QH)
noncomputable def vg (l : List Nat) : Nat → Nat := List.rec (fun _ => 0) (fun x _ f i => Nat.rec x (fun j _ => f j) i) l
noncomputable def QE.d (c : List Nat) (e : QE) : Nat := QE.rec (fun k => k) (fun i => vg c i) (fun _ _ p q => p + q) (fun k _ p => k * p) (fun _ k p => p * k) e
noncomputable def QH.d (c : List Nat) (P : Prop) (h : QH) : Prop := QH.rec P (fun _ x y _ p => x.d c ≤ y.d c → p) h
noncomputable def ladd (l : List Nat) : List Nat → List Nat := List.rec (fun m => m) (fun a l f m => List.rec (a :: l) (fun b m _ => (a + b) :: f m) m) l
noncomputable def lone (k : Nat) (i : Nat) : List Nat := Nat.rec [k] (fun _ l => 0 :: l) i
noncomputable def QE.w (e : QE) : Nat → List Nat := QE.rec (fun j k => [k * j]) (fun i k => 0 :: lone k i) (fun _ _ p q k => ladd (p k) (q k)) (fun j _ p k => p (k * j)) (fun _ j p k => p (k * j)) e
noncomputable def lev (l : List Nat) : List Nat → Nat := List.rec (fun _ => 0) (fun a _ f c => a * vg c 0 + f c.tail) l
theorem lev_add (l : List Nat) : ∀ (m c : List Nat), lev (ladd l m) c = lev l c + lev m c := by
  induction l with
  | nil => exact fun m c => (Nat.zero_add _).symm
  | cons a l ih => 
    intro m
    induction m using List.casesOn with
    | nil => exact fun c => (Nat.add_zero _).symm
    | cons b m => exact fun c => (congrArg (_ + ·) (ih m c.tail)).trans ((congrArg (· + _) (Nat.add_mul a b _)).trans (Nat.add_add_add_comm _ _ _ _))
theorem lev_one (k : Nat) (i : Nat) : ∀ (c : List Nat), lev (lone k i) c = k * vg c i := by
  induction i with
  | zero => exact fun c => rfl
  | succ i ih =>
    refine fun c => (congrArg (0 * vg c 0 + ·) (ih c.tail)).trans ((congrArg (· + _) (Nat.zero_mul _)).trans ((Nat.zero_add _).trans ?_))
    induction c using List.casesOn with
    | nil => rfl
    | cons x c => rfl
theorem QE.w_ok (c : List Nat) (e : QE) : ∀ k, lev (e.w k) (1 :: c) = k * e.d c := by
  induction e with
  | n j => exact fun k => Nat.mul_one (k * j)
  | v i => exact fun k => (congrArg (· + _) (Nat.zero_mul _)).trans ((Nat.zero_add _).trans (lev_one k i c))
  | a x y hx hy => exact fun k => (lev_add _ _ _).trans ((congr (congrArg _ (hx k)) (hy k)).trans (Nat.mul_add _ _ _).symm)
  | m j x hx => exact fun k => (hx _).trans (Nat.mul_assoc _ _ _)
  | r x j hx => exact fun k => (hx _).trans ((Nat.mul_assoc _ _ _).trans (congrArg _ (Nat.mul_comm _ _)))
noncomputable def lle (l : List Nat) : List Nat → Bool := List.rec (fun _ => true) (fun a _ f m => List.rec (and (Nat.beq a 0) (f [])) (fun b m _ => and (Nat.ble a b) (f m)) m) l
theorem lle_ok (l : List Nat) : ∀ (m c : List Nat), lle l m = true → lev l c ≤ lev m c := by
  induction l with
  | nil => exact fun m c _ => Nat.zero_le _
  | cons a l ih =>
    intro m
    induction m using List.casesOn with
    | nil => exact fun c h => have h := (Bool.and_eq_true _ _).mp h; Nat.le_trans (Nat.le_of_eq (congrArg (· * _ + _) (Nat.eq_of_beq_eq_true h.1))) (Nat.le_trans (Nat.le_of_eq ((congrArg (· + _) (Nat.zero_mul _)).trans (Nat.zero_add _))) (ih [] c.tail h.2))
    | cons b m => exact fun c h => have h := (Bool.and_eq_true _ _).mp h; Nat.add_le_add (Nat.mul_le_mul_right _ (Nat.le_of_ble_eq_true h.1)) (ih _ _ h.2)
noncomputable def QH.go (t : QH) : List Nat → List Nat → Bool := QH.rec (fun L R => lle (ladd [1] R) L) (fun k x y _ p L R => p (ladd (x.w k) L) (ladd (y.w k) R)) t
theorem QH.go_ok (c : List Nat) (gl gr : QE) (t : QH) : ∀ (L R : List Nat), t.go L R = true → (¬ gl.d c ≤ gr.d c → lev L (1 :: c) ≤ lev R (1 :: c)) → t.d c (gl.d c ≤ gr.d c) := by
  induction t with
  | z => exact fun L R h k => Decidable.byContradiction (p := gl.d c ≤ gr.d c) fun q => Nat.not_succ_le_self _ (Nat.le_trans (Nat.le_of_eq ((Nat.add_comm _ 1).trans (lev_add [1] R (1 :: c)).symm)) (Nat.le_trans (lle_ok _ _ (1 :: c) h) (k q)))
  | h j x y t ih =>
    exact fun L R h k e => ih _ _ h fun q => Nat.le_trans (Nat.le_of_eq ((lev_add _ _ _).trans (congrArg (· + _) (QE.w_ok c x j)))) (Nat.le_trans (Nat.add_le_add (Nat.mul_le_mul_left _ e) (k q)) (Nat.le_of_eq ((lev_add _ _ _).trans (congrArg (· + _) (QE.w_ok c y j))).symm))
/-- Farkas: multipliers in t (hypotheses) and g (the goal's negation) -/
theorem chk (c : List Nat) (t : QH) (g : Nat) (gl gr : QE) (h : t.go (ladd [g] (gr.w g)) (gl.w g) = true) : t.d c (gl.d c ≤ gr.d c) :=
  QH.go_ok c gl gr t _ _ h fun q => Nat.le_trans (Nat.le_of_eq ((lev_add _ _ _).trans ((congrArg (lev [g] (1 :: c) + ·) (QE.w_ok c gr g)).trans ((congrArg (· + g * gr.d c) (Nat.mul_one g)).trans (Nat.add_comm _ _))))) (Nat.le_trans (Nat.mul_le_mul_left g (Nat.lt_of_not_le q)) (Nat.le_of_eq (QE.w_ok c gl g).symm))
end Mine
end
section
namespace Mine
open PySem

theorem nn {G : Prop} (k : (G → False) → False) : G := Classical.byContradiction k
theorem nns {α : Type} {a : α} {G : Prop} (h : none = some a) : G := nomatch h
theorem nsn {α : Type} {a : α} {G : Prop} (h : some a = none) : G := nomatch h
theorem nft {G : Prop} (h : false = true) : G := nomatch h
theorem ntf {G : Prop} (h : true = false) : G := nomatch h
theorem nim {α : Type} {a : α} {G : Prop} (h : a ∈ []) : G := nomatch h

inductive PV where
  | none | bool (b : Bool) | int (i : Int) | str (s : Str) | bytes (b : Array UInt8)
  | tup (vs : List PV) | lst (vs : List PV)
  | obj (c : Addr) (ns : List Str) (vs : List PV)
  | rng (n : Nat) | cell (k : Nat) | raw (v : Value)

inductive Cell where
  | list (vs : List PV)
  | inst (c : Addr) (ns : List Str) (vs : List PV)
  | exc

inductive Out where
  | ok (v : PV) (σ : List Cell)
  | exc
  | stuck

noncomputable abbrev Loc := List (Option PV)
noncomputable abbrev KV := PV → List Cell → Out
noncomputable abbrev KB := Bool → List Cell → Out
noncomputable abbrev KS := Loc → List Cell → Out
noncomputable abbrev Names := List (Str × NameKind)

noncomputable def br (c : Bool) (t e : Out) : Out := match c with
  | true => t
  | false => e
noncomputable def opt {α : Type} (x : Option α) (k : α → Out) : Out := match x with
  | some a => k a
  | .none => .stuck

noncomputable def lb : List Nat → List Nat → Bool
  | [], [] => true
  | a :: as, b :: bs => match Nat.beq a b with
    | true => lb as bs
    | false => false
  | _, _ => false
noncomputable def seq (a b : Str) : Bool := lb a.cps.toList b.cps.toList

noncomputable def slot (x : Str) : Names → Nat → Option (Nat × NameKind)
  | [], _ => .none
  | (y, k) :: r, i => match seq y x with
    | true => some (i, k)
    | false => slot x r (i + 1)

structure Orc where
  pf : Addr → List PV → KV → Out
  mf : Addr → Cell → List PV → (PV → Cell → List Cell → Out) → Out
  glob : Str → Option PV
  meth : Addr → Str → Option Addr
  fld : Addr → Str → Bool
  isi : Addr → Addr → Option Bool
  lf : Nat

noncomputable def noExc : List Cell → Bool
  | [] => true
  | .exc :: _ => false
  | _ :: r => noExc r
noncomputable def noCells : List PV → Bool
  | [] => true
  | .cell _ :: _ => false
  | _ :: r => noCells r

noncomputable def LIM : Nat := 16777216

noncomputable def view (σ : List Cell) (v : PV) : PV := match v with
  | .cell k => match σ[k]? with
    | some (.list vs) => .lst vs
    | _ => v
  | v => v

noncomputable def tAll (f : PV → PV → Option Bool) : List PV → List PV → Option Bool
  | [], [] => some true
  | [], _ :: _ => some false
  | _ :: _, [] => some false
  | x :: xs, y :: ys => match f x y, tAll f xs ys with
    | some a, some b => some (a && b)
    | _, _ => .none
noncomputable def tEq : Nat → PV → PV → Option Bool
  | 0, _, _ => .none
  | n + 1, p, q => match p with
    | .str a => (match q with
      | .str b => some (decide (a = b))
      | .tup _ => some false
      | _ => .none)
    | .tup xs => (match q with
      | .str _ => some false
      | .tup ys => tAll (tEq n) xs ys
      | _ => .none)
    | _ => .none
noncomputable def pvEq (p q : PV) : Option Bool := match p with
  | .none => (match q with
    | .none => some true
    | .lst _ => some false
    | _ => .none)
  | .bool a => (match q with
    | .bool b => some (a == b)
    | _ => .none)
  | .int a => (match q with
    | .int b => some (decide (a = b))
    | _ => .none)
  | .str a => (match q with
    | .str b => some (decide (a = b))
    | _ => .none)
  | .bytes a => (match q with
    | .bytes b => some (decide (a = b))
    | _ => .none)
  | .tup xs => (match q with
    | .tup ys => tAll (tEq 8) xs ys
    | _ => .none)
  | .lst xs => (match q with
    | .none => some false
    | .lst ys => (match decide (xs.length = ys.length) with
      | true => tAll (tEq 8) xs ys
      | false => some false)
    | _ => .none)
  | _ => .none

noncomputable def one1 {α : Type} : List α → Option α
  | [x] => some x
  | _ => .none
noncomputable def anyInt (x : Int) : List Int → Bool
  | [] => false
  | y :: r => decide (x = y) || anyInt x r
noncomputable def intsOf : List PV → Option (List Int)
  | [] => some []
  | .int i :: r => match intsOf r with
    | some l => some (i :: l)
    | .none => .none
  | _ => .none
noncomputable def anyStr (x : Str) : List Str → Bool
  | [] => false
  | y :: r => decide (x = y) || anyStr x r
noncomputable def strsOf : List PV → Option (List Str)
  | [] => some []
  | .str i :: r => match strsOf r with
    | some l => some (i :: l)
    | .none => .none
  | _ => .none
noncomputable def pvIn (x y : PV) : Option Bool := match x with
  | .int i => (match y with
    | .bytes b => (match decide (0 ≤ i ∧ i < 256) with
      | true => some (b.toList.any fun c => decide ((c.toNat : Int) = i))
      | false => .none)
    | .tup vs => (match intsOf vs with
      | some l => some (anyInt i l)
      | .none => .none)
    | _ => .none)
  | .bytes a => (match y with
    | .bytes b => (match one1 a.toList with
      | some c => some (b.toList.any fun d => d == c)
      | .none => .none)
    | _ => .none)
  | .str a => (match y with
    | .str b => (match one1 a.cps.toList with
      | some c => some (b.cps.toList.any fun d => Nat.beq d c)
      | .none => .none)
    | .tup vs => (match strsOf vs with
      | some l => some (anyStr a l)
      | .none => .none)
    | _ => .none)
  | _ => .none

noncomputable def cmpI (a b : PV) (f : Int → Int → Bool) : Option Bool := match a with
  | .int x => (match b with
    | .int y => some (f x y)
    | _ => .none)
  | _ => .none
noncomputable def cmp (σ : List Cell) (op : CmpOp) (a b : PV) : Option Bool := match op with
  | .Eq => pvEq (view σ a) (view σ b)
  | .NotEq => match pvEq (view σ a) (view σ b) with
    | some c => some (!c)
    | .none => .none
  | .Lt => cmpI a b fun x y => decide (x < y)
  | .LtE => cmpI a b fun x y => decide (x ≤ y)
  | .Gt => cmpI a b fun x y => decide (y < x)
  | .GtE => cmpI a b fun x y => decide (y ≤ x)
  | .In => pvIn a b
  | .NotIn => match pvIn a b with
    | some c => some (!c)
    | .none => .none
  | _ => .none

noncomputable def bIdx (b : Array UInt8) (j : Int) : Option Int := if 0 ≤ j ∧ j < b.size then (b[j.toNat]?).map fun c => (c.toNat : Int) else .none
noncomputable def lIdx {α : Type} (vs : List α) (j : Int) : Option α := match j with
  | .ofNat n => vs[n]?
  | .negSucc _ => .none
noncomputable def subI (v : PV) (j : Int) (k : PV → Out) : Out := match v with
  | .bytes b => opt (bIdx b j) fun c => k (.int c)
  | .tup vs => opt (lIdx vs j) k
  | .lst vs => opt (lIdx vs j) k
  | .str s => opt (lIdx s.cps.toList j) fun c => k (.str ⟨#[c]⟩)
  | _ => .stuck
noncomputable def sub (σ : List Cell) (v i : PV) (k : PV → Out) : Out := match i with
  | .int j => subI (view σ v) j k
  | _ => .stuck

noncomputable def cl (n : Nat) (i : Int) : Nat := if i < 0 then (i + n).toNat else min i.toNat n
noncomputable def lSlice {α : Type} (l : List α) (lo hi : Option Int) : List α :=
  (l.drop (lo.elim 0 (cl l.length))).take (hi.elim l.length (cl l.length) - lo.elim 0 (cl l.length))
noncomputable def bSlice (b : Array UInt8) (lo hi : Option Int) : Array UInt8 := (lSlice b.toList lo hi).toArray
noncomputable def part (v : PV) : Option (Option Int) := match v with
  | .none => some .none
  | .int i => some (some i)
  | _ => .none
noncomputable def sliceV (v : PV) (l h : Option Int) (k : PV → Out) : Out := match v with
  | .bytes b => k (.bytes (bSlice b l h))
  | .lst vs => k (.lst (lSlice vs l h))
  | _ => .stuck
noncomputable def slice (σ : List Cell) (v lo hi : PV) (k : PV → Out) : Out := opt (part lo) fun l => opt (part hi) fun h => sliceV (view σ v) l h k

noncomputable def ii (a b : PV) (f : Int → Int → Out) : Out := match a with
  | .int x => (match b with
    | .int y => f x y
    | _ => .stuck)
  | _ => .stuck
noncomputable def addP (a b : PV) (k : PV → Out) : Out := match a with
  | .int x => (match b with
    | .int y => k (.int (x + y))
    | _ => .stuck)
  | .bytes x => (match b with
    | .bytes y => br (decide (x.size + y.size ≤ LIM)) (k (.bytes (x ++ y))) .stuck
    | _ => .stuck)
  | .str x => (match b with
    | .str y => br (decide (x.length + y.length ≤ LIM)) (k (.str (x ++ y))) .stuck
    | _ => .stuck)
  | _ => .stuck
noncomputable def binop (op : Operator) (a b : PV) (k : PV → Out) : Out := match op with
  | .Add => addP a b k
  | .Sub => ii a b fun x y => k (.int (x - y))
  | .Mod => ii a b fun x y => br (decide (0 < y)) (k (.int (x.fmod y))) .stuck
  | .Mult => ii a b fun x y => br (decide (x.natAbs < 18446744073709551616 ∨ y.natAbs < 18446744073709551616)) (k (.int (x * y))) .stuck
  | .FloorDiv => ii a b fun x y => br (decide (0 < y ∧ y < 1000000)) (k (.int (x.fdiv y))) .stuck
  | .Pow => ii a b fun x y => br (decide (0 ≤ y ∧ y ≤ 100 ∧ x.natAbs < 18446744073709551616)) (k (.int (x ^ y.toNat))) .stuck
  | _ => .stuck

noncomputable def fget (name : Str) : List Str → List PV → Option PV
  | n :: ns, v :: vs => match seq n name with
    | true => some v
    | false => fget name ns vs
  | _, _ => .none
noncomputable def fset (name : Str) (x : PV) : List Str → List PV → List PV
  | n :: ns, v :: vs => match seq n name with
    | true => x :: vs
    | false => v :: fset name x ns vs
  | _, _ => []
noncomputable def fhas (name : Str) : List Str → Bool
  | n :: ns => match seq n name with
    | true => true
    | false => fhas name ns
  | [] => false
noncomputable def noRaw (p : PV) (k : PV → Out) : Out := match p with
  | .raw _ => .stuck
  | p => k p
noncomputable def attr (O : Orc) (σ : List Cell) (v : PV) (name : Str) (k : PV → Out) : Out := match v with
  | .obj c ns vs => br (O.fld c name) (opt (fget name ns vs) fun p => noRaw p k) .stuck
  | .cell j => match σ[j]? with
    | some (.inst c ns vs) => br (O.fld c name) (opt (fget name ns vs) fun p => noRaw p k) .stuck
    | _ => .stuck
  | _ => .stuck
noncomputable def noCell (p : PV) (k : Out) : Out := match p with
  | .cell _ => .stuck
  | _ => k
noncomputable def setAttrC (O : Orc) (σ : List Cell) (o : PV) (name : Str) (x : PV) (k : List Cell → Out) : Out := match o with
  | .cell j => match σ[j]? with
    | some (.inst c ns vs) => br (O.fld c name) (br (Nat.blt ns.length 100) (noCell x (match fhas name ns with
      | true => k (σ.set j (.inst c ns (fset name x ns vs)))
      | false => k (σ.set j (.inst c (ns ++ [name]) (vs ++ [x]))))) .stuck) .stuck
    | _ => .stuck
  | _ => .stuck

noncomputable def items (v : PV) : Option (List PV) := match v with
  | .lst vs => some vs
  | .tup vs => some vs
  | .str s => some (s.cps.toList.map fun c => .str ⟨#[c]⟩)
  | .bytes b => some (b.toList.map fun c => .int c.toNat)
  | .rng n => some ((List.range n).map fun (i : Nat) => .int i)
  | _ => .none

noncomputable def bytesOf : List PV → Option (List (Array UInt8))
  | [] => some []
  | .bytes b :: r => match bytesOf r with
    | some l => some (b :: l)
    | .none => .none
  | _ => .none
noncomputable def bJoin (sep : List UInt8) : List (Array UInt8) → List UInt8
  | [] => []
  | [x] => x.toList
  | x :: r => x.toList ++ sep ++ bJoin sep r
noncomputable def sJoin (sep : List Nat) : List Str → List Nat
  | [] => []
  | [x] => x.cps.toList
  | x :: r => x.cps.toList ++ sep ++ sJoin sep r
noncomputable def jFit (sep : Nat) (ls : List Nat) : Bool := decide (ls.sum + ls.length * sep ≤ LIM)
noncomputable def splitAt1 {α : Type} (p : α → Bool) : List α → List (List α)
  | [] => [[]]
  | c :: r => match p c with
    | true => [] :: splitAt1 p r
    | false => match splitAt1 p r with
      | [] => [[c]]
      | w :: ws => (c :: w) :: ws

noncomputable def retK (σ : List Cell) (v : PV) (fr : List Cell) (k : KV) : Out := match fr with
  | [] => k v σ
  | c :: _ => k (.cell σ.length) (σ ++ [c])

noncomputable def okCode (i : Int) : Bool := decide (0 ≤ i) && decide (i < 1114112)
noncomputable def lenP (v : PV) (k : PV → Out) : Out := match v with
  | .bytes b => k (.int b.size)
  | .str s => k (.int s.length)
  | .lst vs => k (.int vs.length)
  | .tup vs => k (.int vs.length)
  | _ => .stuck
noncomputable def asI (v : PV) (k : Int → Out) : Out := match v with
  | .int i => k i
  | _ => .stuck
noncomputable def asS (v : PV) (k : Str → Out) : Out := match v with
  | .str i => k i
  | _ => .stuck
noncomputable def asL (v : PV) (k : List PV → Out) : Out := match v with
  | .lst i => k i
  | _ => .stuck
noncomputable def sel (id w : String) (t e : Out) : Out := match decide (id = w) with
  | true => t
  | false => e
noncomputable def arg1 (args : List PV) (k : PV → Out) : Out := match args with
  | [v] => k v
  | _ => .stuck
noncomputable def callB (σ : List Cell) (id : String) (args : List PV) (k : PV → Out) : Out := arg1 args fun v =>
  sel id "len" (lenP (view σ v) k) (sel id "chr" (asI v fun i => br (okCode i) (k (.str ⟨#[i.toNat]⟩)) .stuck)
    (sel id "ord" (asS v fun s => opt (one1 s.cps.toList) fun c => k (.int c)) (sel id "abs" (asI v fun i => k (.int (if i < 0 then -i else i))) .stuck)))
noncomputable def natP (n : Int) (k : Nat → Out) : Out := match n with
  | .ofNat n => k n
  | _ => .stuck
noncomputable def callT (σ : List Cell) (id : String) (args : List PV) (k : PV → Out) : Out := arg1 args fun v =>
  sel id "bytes" (asL (view σ v) fun vs => opt (intsOf vs) fun l => br (l.all fun i => decide (0 ≤ i) && decide (i < 256)) (k (.bytes (l.map fun i => i.toNat.toUInt8).toArray)) .stuck)
    (sel id "range" (asI v fun n => natP n fun n => br (decide (n ≤ LIM)) (k (.rng n)) .stuck)
      (sel id "tuple" (asL (view σ v) fun vs => k (.tup vs)) (sel id "int" (asI v fun i => k (.int i)) .stuck)))

noncomputable def isiA (id : String) (args : List PV) : Option (Addr × Addr) := match args with
  | [p, q] => (match p with
    | .obj c _ _ => (match q with
      | .raw v => (match v with
        | .ref d => (match decide (id = "isinstance") with
          | true => some (c, d)
          | false => .none)
        | _ => .none)
      | _ => .none)
    | _ => .none)
  | _ => .none
noncomputable def callF (O : Orc) (σ : List Cell) (f : PV) (args : List PV) (k : KV) : Out := match f with
  | .raw (.ref a) => br (noExc σ) (match args with
    | .cell j :: rest => match σ[j]? with
      | some (.inst c ns vs) => br (noCells rest) (O.mf a (.inst c ns vs) rest fun v c' fr => retK (σ.set j c') v fr k) .stuck
      | some (.list vs) => br (noCells rest) (O.mf a (.list vs) rest fun v c' fr => retK (σ.set j c') v fr k) .stuck
      | _ => .stuck
    | args => br (noCells args) (O.pf a args fun v fr => retK σ v fr k) .stuck) .stuck
  | .raw (.builtin id) => match isiA id args with
    | some (c, d) => opt (O.isi c d) fun b => k (.bool b) σ
    | .none => callB σ id args fun v => k v σ
  | .raw (.type id) => callT σ id args fun v => k v σ
  | _ => .stuck

noncomputable def callM (O : Orc) (σ : List Cell) (o : PV) (name : Str) (args : List PV) (k : KV) : Out := match o with
  | .bytes b => match seq name "join", args with
    | true, [v] => match view σ v with
      | .lst vs => opt (bytesOf vs) fun bs => br (jFit b.size (bs.map (·.size))) (k (.bytes (bJoin b.toList bs).toArray) σ) .stuck
      | _ => .stuck
    | _, _ => match seq name "split", args with
      | true, [.bytes c] => opt (one1 c.toList) fun x => br (decide (b.size < LIM)) (k (.lst ((splitAt1 (fun y => y == x) b.toList).map fun w => .bytes w.toArray)) σ) .stuck
      | _, _ => .stuck
  | .str s => match seq name "join", args with
    | true, [v] => match view σ v with
      | .lst vs => opt (strsOf vs) fun bs => br (jFit s.length (bs.map (·.length))) (k (.str ⟨(sJoin s.cps.toList bs).toArray⟩) σ) .stuck
      | _ => .stuck
    | _, _ => match seq name "split", args with
      | true, [.str c] => opt (one1 c.cps.toList) fun x => br (decide (s.length < LIM)) (k (.lst ((splitAt1 (fun y => y == x) s.cps.toList).map fun w => .str ⟨w.toArray⟩)) σ) .stuck
      | _, _ => .stuck
  | .cell j => match σ[j]? with
    | some (.list vs) => match seq name "append", args with
      | true, [x] => noCell x (br (decide (vs.length < LIM)) (k .none (σ.set j (.list (vs ++ [x])))) .stuck)
      | _, _ => .stuck
    | some (.inst c ns vs) => opt (O.meth c name) fun a => br (noExc σ) (br (noCells args) (O.mf a (.inst c ns vs) args fun v c' fr => retK (σ.set j c') v fr k) .stuck) .stuck
    | _ => .stuck
  | .obj c ns vs => opt (O.meth c name) fun a => br (noExc σ) (br (noCells args) (O.pf a (.obj c ns vs :: args) fun v fr => retK σ v fr k) .stuck) .stuck
  | _ => .stuck

noncomputable def preM (O : Orc) (σ : List Cell) (o : PV) (name : Str) : Bool := match o with
  | .bytes _ => seq name "join" || seq name "split"
  | .str _ => seq name "join" || seq name "split"
  | .cell j => match σ[j]? with
    | some (.list _) => seq name "append"
    | some (.inst c ns _) => (O.meth c name).isSome && !fhas name ns
    | _ => false
  | .obj c ns _ => (O.meth c name).isSome && !fhas name ns
  | _ => false
noncomputable def whileL : Nat → (Loc → List Cell → KB → Out) → (Loc → List Cell → KS → Out) → Loc → List Cell → KS → Out
  | 0, _, _, _, _, _ => .stuck
  | n + 1, t, b, m, σ, k => t m σ fun c σ => br c (b m σ fun m σ => whileL n t b m σ k) (k m σ)
noncomputable def forL : List PV → (PV → Loc → List Cell → KS → Out) → Loc → List Cell → KS → Out
  | [], _, m, σ, k => k m σ
  | x :: xs, b, m, σ, k => b x m σ fun m σ => forL xs b m σ k
noncomputable def compL : List PV → (PV → List Cell → (Option PV → List Cell → Out) → Out) → List Cell → (List PV → List Cell → Out) → Out
  | [], _, σ, k => k [] σ
  | x :: xs, f, σ, k => f x σ fun r σ => compL xs f σ fun ys σ => k (match r with | some y => y :: ys | .none => ys) σ

noncomputable def setN (ns : Names) (x : Str) (v : PV) (m : Loc) (k : Loc → Out) : Out := match slot x ns 0 with
  | some (i, .local) => k (m.set i (some v))
  | _ => .stuck
noncomputable def setTs (ns : Names) : List PySem.Expr → List PV → Loc → (Loc → Out) → Out
  | [], [], m, k => k m
  | .Name x _ :: ts, v :: vs, m, k => setN ns x v m fun m => setTs ns ts vs m k
  | _, _, _, _ => .stuck
noncomputable def setT (ns : Names) (t : PySem.Expr) (v : PV) (m : Loc) (k : Loc → Out) : Out := match t with
  | .Name x _ => setN ns x v m k
  | .Tuple ts _ _ => match v with
    | .tup vs => br (Nat.beq ts.length vs.length) (setTs ns ts vs m k) .stuck
    | .lst vs => br (Nat.beq ts.length vs.length) (setTs ns ts vs m k) .stuck
    | _ => .stuck
  | _ => .stuck
/- an item of a list is set -/
noncomputable def setSub (σ : List Cell) (o i x : PV) (k : List Cell → Out) : Out := match o, i with
  | .cell j, .int i => match σ[j]? with
    | some (.list vs) => br (decide (0 ≤ i) && decide (i < vs.length)) (noCell x (k (σ.set j (.list (vs.set i.toNat x))))) .stuck
    | _ => .stuck
  | _, _ => .stuck
noncomputable def setNs (ns : Names) : List Str → List PV → Loc → (Loc → Out) → Out
  | [], [], m, k => k m
  | x :: ts, v :: vs, m, k => setN ns x v m fun m => setNs ns ts vs m k
  | _, _, _, _ => .stuck
/- the names that a display of two or three gives their worth in the other order -/
noncomputable def swapNames (ns : Names) (ts vs : List PySem.Expr) : Option (List Str) :=
  if (!(ts.length == 2 || ts.length == 3) || vs.length != ts.length) = true then none else
  if (vs.any fun | .Starred .. => true | _ => false) = true then none else
  let line := (ts.head?.map (·.pos.line)).getD 0
  let names := ts.filterMap fun
    | .Name id pos => if (ns.lookup id == some .local && pos.line == line) = true then some id else none
    | _ => none
  if (names.length != ts.length || names.eraseDups.length != names.length) = true then none else
  if vs.all (foldedForSure 8) = true then none else
  if vs.all (constantsAlone 8) = true then none else some names

/- the model looks twice at a base that is a call of a name without arguments -/
noncomputable def plainB (e : PySem.Expr) : PySem.Expr := match e with
  | .Call f args kws p => (match args with
    | [] => (match kws with
      | [] => (match f with
        | .Name .. => .Starred e p
        | _ => e)
      | _ => e)
    | _ => e)
  | e => e
/- a value that the model hands to its use otherwise -/
noncomputable def plainV (e : PySem.Expr) : PySem.Expr := match e with
  | .ListComp _ _ _ p => .Starred e p
  | e => e
noncomputable def scN (all : Names) : Names → Bool
  | [] => true
  | (x, .local) :: r => match slot x all 0 with
    | some (_, .local) => scN all r
    | _ => false
  | (_, .globalImplicit) :: r => scN all r
  | _ => false
noncomputable def scOk (sc : Scope) : Bool := match sc.kind with
  | .function => scN sc.names sc.names
  | _ => false
/- a scope that reads names of the one around it -/
noncomputable def hasFree : Names → Bool
  | [] => false
  | (_, .free) :: _ => true
  | _ :: r => hasFree r
noncomputable def relN : Names → Names
  | [] => []
  | (x, .free) :: r => (x, .cell) :: relN r
  | p :: r => p :: relN r
noncomputable def relM (ns : Names) (m : Loc) : Names → Loc
  | [] => []
  | (x, .free) :: r => (match slot x ns 0 with
    | some (i, .cell) => match m[i]? with
      | some (some v) => some v
      | _ => .none
    | _ => .none) :: relM ns m r
  | _ :: r => .none :: relM ns m r
noncomputable def scN2 (ns : Names) (m : Loc) (all : Names) : Names → Bool
  | [] => true
  | (x, .local) :: r => match slot x all 0 with
    | some (_, .local) => scN2 ns m all r
    | _ => false
  | (_, .globalImplicit) :: r => scN2 ns m all r
  | (x, .free) :: r => match slot x ns 0 with
    | some (i, .cell) => match m[i]? with
      | some (some _) => scN2 ns m all r
      | _ => false
    | _ => false
  | _ => false
noncomputable def scOk2 (ns : Names) (m : Loc) (sc : Scope) : Bool := match sc.kind with
  | .function => scN2 ns m sc.names sc.names
  | _ => false
noncomputable def noX (o : Out) : Out := match o with
  | .exc => .stuck
  | o => o
noncomputable def noStars : List PySem.Expr → Bool
  | [] => true
  | .Starred .. :: _ => false
  | _ :: r => noStars r
noncomputable def LF : Nat := 100000

mutual
noncomputable def evalE (O : Orc) (ns : Names) : Nat → PySem.Expr → Loc → List Cell → KV → Out
  | 0, _, _, _, _ => .stuck
  | n + 1, e, m, σ, k => match e with
    | .Constant c _ _ => match c with
      | .none => k .none σ
      | .bool b => k (.bool b) σ
      | .int i => k (.int i) σ
      | .str s => br (decide (s.length ≤ LIM)) (k (.str s) σ) .stuck
      | .bytes b => br (decide (b.length ≤ LIM)) (k (.bytes b.toArray) σ) .stuck
      | _ => .stuck
    | .Name id _ => match seq id "__debug__" with
      | true => .stuck
      | false => match slot id ns 0 with
        | some (i, .local) => match m[i]? with
          | some (some v) => k v σ
          | _ => .stuck
        | some (_, .globalImplicit) => opt (O.glob id) fun v => k v σ
        | some (i, .cell) => match m[i]? with
          | some (some v) => k v σ
          | _ => .stuck
        | _ => .stuck
    | .BoolOp op vs _ => boolV O ns n op vs m σ k
    | .BinOp l op r _ => evalE O ns n l m σ fun a σ => evalE O ns n r m σ fun b σ => binop op a b fun v => k v σ
    | .UnaryOp op x _ => match op with
      | .Not => evalE O ns n x m σ fun v σ => match v with
        | .bool b => k (.bool (!b)) σ
        | _ => .stuck
      | .USub => evalE O ns n x m σ fun v σ => match v with
        | .int i => k (.int (-i)) σ
        | _ => .stuck
      | _ => .stuck
    | .IfExp t b o _ => testE O ns n t m σ fun c σ => br c (evalE O ns n b m σ k) (evalE O ns n o m σ k)
    | .Compare l ops rs _ => evalE O ns n l m σ fun a σ => chainE O ns n a ops rs m σ fun c σ => k (.bool c) σ
    | .Call f args kws p => match kws with
      | [] => match f with
        | .Attribute o name ap => br (Nat.beq ap.endLine p.line) (br (Nat.blt args.length 20 && noStars args) (evalE O ns n (plainB o) m σ fun ov σ => br (preM O σ ov name) (argsE O ns n args m σ fun vs σ => callM O σ ov name vs k) .stuck) .stuck) .stuck
        | f => br (noStars args) (evalE O ns n f m σ fun fv σ => argsE O ns n args m σ fun vs σ => callF O σ fv vs k) .stuck
      | _ => .stuck
    | .Attribute o name _ => evalE O ns n (plainB o) m σ fun ov σ => attr O σ ov name fun v => k v σ
    | .Subscript o i _ => match i with
      | .Slice lo hi st _ => match st with
        | .none => evalE O ns n o m σ fun ov σ => optE O ns n lo m σ fun l σ => optE O ns n hi m σ fun h σ => slice σ ov l h fun v => k v σ
        | _ => .stuck
      | i => evalE O ns n o m σ fun ov σ => evalE O ns n i m σ fun iv σ => sub σ ov iv fun v => k v σ
    | .List es _ => match es with
      | [] => k (.cell σ.length) (σ ++ [.list []])
      | e :: es => br (Nat.blt es.length 100) (argsE O ns n (e :: es) m σ fun vs σ => br (noCells vs) (k (.lst vs) σ) .stuck) .stuck
    | .Tuple es _ _ => br (Nat.blt es.length 100) (argsE O ns n es m σ fun vs σ => br (noCells vs) (k (.tup vs) σ) .stuck) .stuck
    | .ListComp elt gens sc _ => match gens with
      | [⟨.Name x _, it, ifs, .ofNat 0⟩] => match hasFree sc.names with
        | false => br (scOk sc) (evalE O ns n it m σ fun v σ => opt (items v) fun xs =>
          compL xs (fun x' σ k' => setN sc.names x x' (sc.names.map fun ζ => .none) fun m' =>
            ifsE O sc.names n ifs m' σ fun c σ => br c (evalE O sc.names n elt m' σ fun y σ => noCell y (k' (some y) σ)) (k' .none σ)) σ fun ys σ => k (.lst ys) σ) .stuck
        | true => br (scOk2 ns m sc) (noX (evalE O ns n it m σ fun v σ => opt (items v) fun xs =>
          compL xs (fun x' σ k' => setN (relN sc.names) x x' (relM ns m sc.names) fun m' =>
            ifsE O (relN sc.names) n ifs m' σ fun c σ => br c (evalE O (relN sc.names) n elt m' σ fun y σ => noCell y (k' (some y) σ)) (k' .none σ)) σ fun ys σ => k (.lst ys) σ)) .stuck
      | _ => .stuck
    | _ => .stuck
noncomputable def optE (O : Orc) (ns : Names) : Nat → Option PySem.Expr → Loc → List Cell → KV → Out
  | 0, _, _, _, _ => .stuck
  | n + 1, e, m, σ, k => match e with
    | .none => k .none σ
    | some e => evalE O ns n e m σ k
noncomputable def argsE (O : Orc) (ns : Names) : Nat → List PySem.Expr → Loc → List Cell → (List PV → List Cell → Out) → Out
  | 0, _, _, _, _ => .stuck
  | n + 1, es, m, σ, k => match es with
    | [] => k [] σ
    | e :: es => evalE O ns n e m σ fun v σ => argsE O ns n es m σ fun vs σ => k (v :: vs) σ
noncomputable def boolV (O : Orc) (ns : Names) : Nat → BoolOp → List PySem.Expr → Loc → List Cell → KV → Out
  | 0, _, _, _, _, _ => .stuck
  | n + 1, op, es, m, σ, k => match es with
    | [] => .stuck
    | [e] => evalE O ns n e m σ k
    | e :: es => evalE O ns n e m σ fun v σ => match v with
      | .bool c => match op with
        | .And => br c (boolV O ns n op es m σ k) (k (.bool false) σ)
        | .Or => br c (k (.bool true) σ) (boolV O ns n op es m σ k)
      | _ => .stuck
noncomputable def testE (O : Orc) (ns : Names) : Nat → PySem.Expr → Loc → List Cell → KB → Out
  | 0, _, _, _, _ => .stuck
  | n + 1, e, m, σ, k => match e with
    | .UnaryOp .Not x _ => testE O ns n x m σ fun c σ => k (!c) σ
    | .BoolOp op vs _ => boolT O ns n op vs m σ k
    | .IfExp t b o _ => testE O ns n t m σ fun c σ => br c (testE O ns n b m σ k) (testE O ns n o m σ k)
    | .Compare l ops rs _ => evalE O ns n l m σ fun a σ => chainE O ns n a ops rs m σ k
    | e => evalE O ns n e m σ fun v σ => match v with
      | .bool c => k c σ
      | _ => .stuck
noncomputable def boolT (O : Orc) (ns : Names) : Nat → BoolOp → List PySem.Expr → Loc → List Cell → KB → Out
  | 0, _, _, _, _, _ => .stuck
  | n + 1, op, es, m, σ, k => match es with
    | [] => match op with
      | .And => k true σ
      | .Or => k false σ
    | e :: es => testE O ns n e m σ fun c σ => match op with
      | .And => br c (boolT O ns n op es m σ k) (k false σ)
      | .Or => br c (k true σ) (boolT O ns n op es m σ k)
noncomputable def chainE (O : Orc) (ns : Names) : Nat → PV → List CmpOp → List PySem.Expr → Loc → List Cell → KB → Out
  | 0, _, _, _, _, _, _ => .stuck
  | n + 1, a, ops, rs, m, σ, k => match ops, rs with
    | [op], [r] => evalE O ns n r m σ fun b σ => opt (cmp σ op a b) fun c => k c σ
    | op :: o2 :: ops, r :: r2 :: rs => evalE O ns n r m σ fun b σ => opt (cmp σ op a b) fun c => br c (chainE O ns n b (o2 :: ops) (r2 :: rs) m σ k) (k false σ)
    | _, _ => .stuck
noncomputable def ifsE (O : Orc) (ns : Names) : Nat → List PySem.Expr → Loc → List Cell → KB → Out
  | 0, _, _, _, _ => .stuck
  | n + 1, es, m, σ, k => match es with
    | [] => k true σ
    | e :: es => testE O ns n e m σ fun c σ => br c (ifsE O ns n es m σ k) (k false σ)
end

noncomputable def isExc (σ : List Cell) (v : PV) : Bool := match v with
  | .cell j => match σ[j]? with
    | some .exc => true
    | _ => false
  | _ => false

noncomputable def execS (O : Orc) (ns : Names) : Nat → List Stmt → Loc → List Cell → KS → KS → KV → Out
  | 0, _, _, _, _, _, _ => .stuck
  | n + 1, ss, m, σ, kn, kc, kr => match ss with
    | [] => kn m σ
    | s :: rest => match s with
      | .Return e _ => match e with
        | .none => kr .none σ
        | some e => match e with
          | .List (e :: es) _ => br (Nat.blt es.length 100) (argsE O ns n (e :: es) m σ fun vs σ => br (noCells vs) (kr (.cell σ.length) (σ ++ [.list vs])) .stuck) .stuck
          | e => evalE O ns n e m σ kr
      | .Assign ts e _ => match ts with
        | [t] => match t with
          | .Attribute o name _ => evalE O ns n (plainV e) m σ fun v σ => evalE O ns n o m σ fun ov σ => setAttrC O σ ov name v fun σ => execS O ns n rest m σ kn kc kr
          | .Name x _ => evalE O ns n (plainV e) m σ fun v σ => setN ns x v m fun m => execS O ns n rest m σ kn kc kr
          | .Tuple ts _ _ => match e with
            | .Tuple es a b => match es.all (foldedForSure 8) with
              | true => evalE O ns n (.Tuple es a b) m σ fun v σ => setT ns t v m fun m => execS O ns n rest m σ kn kc kr
              | false => opt (swapNames ns ts es) fun names => evalE O ns n (.Tuple es a b) m σ fun v σ => match v with
                | .tup vs => br (Nat.beq names.length vs.length) (setNs ns names.reverse vs.reverse m fun m => execS O ns n rest m σ kn kc kr) .stuck
                | _ => .stuck
            | .ListComp a b c d => evalE O ns n (.ListComp a b c d) m σ fun v σ => setT ns t v m fun m => execS O ns n rest m σ kn kc kr
            | e => evalE O ns n (plainV e) m σ fun v σ => setT ns t v m fun m => execS O ns n rest m σ kn kc kr
          | .Subscript o i _ => match i with
            | .Slice .. => .stuck
            | i => evalE O ns n (plainV e) m σ fun v σ => evalE O ns n o m σ fun ov σ => evalE O ns n i m σ fun iv σ => setSub σ ov iv v fun σ => execS O ns n rest m σ kn kc kr
          | _ => .stuck
        | _ => .stuck
      | .Expr e _ => evalE O ns n (plainV e) m σ fun ζ σ => execS O ns n rest m σ kn kc kr
      | .If t b o _ => testE O ns n t m σ fun c σ => br c (execS O ns n b m σ (fun m σ => execS O ns n rest m σ kn kc kr) kc kr) (execS O ns n o m σ (fun m σ => execS O ns n rest m σ kn kc kr) kc kr)
      | .While t b o _ => match o with
        | [] => whileL O.lf (fun m σ k => testE O ns n t m σ k) (fun m σ k => execS O ns n b m σ k k kr) m σ fun m σ => execS O ns n rest m σ kn kc kr
        | _ => .stuck
      | .For t it b o _ => match o with
        | [] => evalE O ns n it m σ fun v σ => opt (items v) fun xs => forL xs (fun x m σ k => setT ns t x m fun m => execS O ns n b m σ k k kr) m σ fun m σ => execS O ns n rest m σ kn kc kr
        | _ => .stuck
      | .Raise e c _ => match e, c with
        | some e, .none => evalE O ns n e m σ fun v σ => br (isExc σ v) .exc .stuck
        | _, _ => .stuck
      | .Continue _ => kc m σ
      | _ => .stuck

/- a function's run -/
noncomputable def initL (ns : Names) : Loc → List Str → List PV → Loc
  | m, x :: xs, p :: ps => match slot x ns 0 with
    | some (i, .local) => initL ns (m.set i (some p)) xs ps
    | some (i, .cell) => initL ns (m.set i (some p)) xs ps
    | _ => m
  | m, _, _ => m
noncomputable def frz (v : PV) (σ : List Cell) (k : KV) : Out := match v with
  | .cell j => match σ[j]? with
    | some (.list vs) => k (.lst vs) []
    | some c => k (.cell 0) [c]
    | .none => .stuck
  | v => k v []
noncomputable def runP (O : Orc) (n : Nat) (ns : Names) (body : List Stmt) (xs : List Str) (ps : List PV) (k : KV) : Out :=
  execS O ns n body (initL ns (ns.map fun ζ => .none) xs ps) [] (fun ζ ζ => k .none []) (fun ζ ζ => .stuck) (fun v σ => frz v σ k)
noncomputable def selfOf (σ : List Cell) (k : Cell → Out) : Out := match σ with
  | .exc :: _ => .stuck
  | c :: _ => k c
  | [] => .stuck
noncomputable def frzM (v : PV) (σ : List Cell) (k : KV) : Out := match v with
  | .cell 0 => .stuck
  | v => frz v σ k
noncomputable def runM (O : Orc) (n : Nat) (ns : Names) (body : List Stmt) (xs : List Str) (c : Cell) (ps : List PV) (k : PV → Cell → List Cell → Out) : Out :=
  execS O ns n body (initL ns (ns.map fun ζ => .none) xs (.cell 0 :: ps)) [c] (fun ζ σ => selfOf σ fun c => k .none c []) (fun ζ ζ => .stuck) (fun v σ => selfOf σ fun c => frzM v σ fun p fr => k p c fr)
/- a function that gives a new list to be changed -/
noncomputable def frzT (v : PV) (σ : List Cell) (k : KV) : Out := match v with
  | .cell j => match σ[j]? with
    | some c => k (.cell 0) [c]
    | .none => .stuck
  | v => k v []
noncomputable def runT (O : Orc) (n : Nat) (ns : Names) (body : List Stmt) (xs : List Str) (ps : List PV) (k : KV) : Out :=
  execS O ns n body (initL ns (ns.map fun ζ => .none) xs ps) [] (fun ζ ζ => k .none []) (fun ζ ζ => .stuck) (fun v σ => frzT v σ k)
end Mine
end
section
set_option maxRecDepth 100000
namespace Mine
open PySem PySem.W PyProof.Rows PySem.Spec PySem.Calls

noncomputable abbrev PR : Program := PySem.Challenge.rw_pq0946_01.row.prog
noncomputable abbrev LO : List Str := looseW H.vw H.loo

structure Wd where
  w : World
  mean : ExcName → Option Value
  mg : Str → Option Value
  mb : Str → Option Value

noncomputable abbrev Wd.M (W : Wd) : Model := model PR W.w
noncomputable abbrev Wd.K (W : Wd) : Frag := H.Kf W.w.params

structure Kn (W : Wd) (g : Heap) : Prop where
  kin : W.K.In g
  top : Top H.vw LO W.mean W.mg W.mb g
theorem Kn.keeps {W : Wd} {g g' : Heap} (k : Kn W g) (s : g.StaysIn g') : Kn W g' := ⟨k.kin.keeps s, k.top.keeps s⟩

noncomputable def wget : List Str → List Value → Str → Option Value
  | n :: ns, v :: vs, y => if n = y then some v else wget ns vs y
  | _, _, _ => none

mutual
noncomputable def Rep (g : Heap) : PV → Value → Prop
  | .none, v => v = .none
  | .bool b, v => v = .bool b
  | .int i, v => ∃ t, v = .int i t
  | .str s, v => s.length ≤ sizeLine ∧ ∃ t, v = .str s t
  | .bytes b, v => b.size ≤ sizeLine ∧ ∃ t, v = .bytes b t
  | .tup vs, v => ∃ a ws, v = .ref a ∧ IsTup g a ws.toArray ∧ Reps g vs ws ∧ ws.length ≤ sizeLine
  | .lst vs, v => ∃ a ws, v = .ref a ∧ g.IsList a ws.toArray ∧ Reps g vs ws ∧ ws.length ≤ sizeLine
  | .obj c ns vs, v => ∃ x dx ws, v = .ref x ∧ g.get? x = some (instObj c dx) ∧ g.Ns dx (wget ns ws) ∧ Reps g vs ws ∧ ns.length = vs.length
  | .rng n, v => ∃ a t u w, v = .ref a ∧ n ≤ sizeLine ∧ IsRange g a 0 n 1 t u w
  | .cell _, _ => False
  | .raw u, v => v = u
noncomputable def Reps (g : Heap) : List PV → List Value → Prop
  | [], ws => ws = []
  | p :: ps, ws => ∃ v r, ws = v :: r ∧ Rep g p v ∧ Reps g ps r
end

mutual
theorem Rep.mono {g g' : Heap} (s : g.StaysIn g') : ∀ {p : PV} {v : Value}, Rep g p v → Rep g' p v
  | .none, _, h => h
  | .bool _, _, h => h
  | .int _, _, h => h
  | .str _, _, h => h
  | .bytes _, _, h => h
  | .tup vs, _, h => by
    simp only [Rep] at h ⊢
    refine nn fun nG => ?_
    obtain ⟨a, ws, e, ⟨o, ho, r⟩, hr, hz⟩ := h
    refine nG ?_
    exact ⟨a, ws, e, ⟨o, s _ _ ho, r⟩, Reps.mono s hr, hz⟩
  | .lst vs, _, h => by
    simp only [Rep] at h ⊢
    refine nn fun nG => ?_
    obtain ⟨a, ws, e, ⟨o, ho, r⟩, hr, hz⟩ := h
    refine nG ?_
    exact ⟨a, ws, e, ⟨o, s _ _ ho, r⟩, Reps.mono s hr, hz⟩
  | .obj c ns vs, _, h => by
    simp only [Rep] at h ⊢
    refine nn fun nG => ?_
    obtain ⟨x, dx, ws, e, hx, hn, hr, hz⟩ := h
    refine nG ?_
    exact ⟨x, dx, ws, e, s _ _ hx, hn.keeps s, Reps.mono s hr, hz⟩
  | .rng n, _, h => by
    simp only [Rep] at h ⊢
    refine nn fun nG => ?_
    obtain ⟨a, t, u, w, e, hz, hr⟩ := h
    refine nG ?_
    exact ⟨a, t, u, w, e, hz, s _ _ hr⟩
  | .cell _, _, h => h
  | .raw _, _, h => h
theorem Reps.mono {g g' : Heap} (s : g.StaysIn g') : ∀ {ps : List PV} {vs : List Value}, Reps g ps vs → Reps g' ps vs
  | [], _, h => h
  | p :: ps, _, h => by
    simp only [Reps] at h ⊢
    refine nn fun nG => ?_
    obtain ⟨v, r, e, h1, h2⟩ := h
    refine nG ?_
    exact ⟨v, r, e, Rep.mono s h1, Reps.mono s h2⟩
end

/- an object that is no record -/
noncomputable def NoRec (o : Obj) : Prop := ∀ vs, o.data ≠ .fields vs
/- what stands in g but for an address of a record -/
mutual
theorem Rep.off {g g' : Heap} (s : ∀ b o, g.get? b = some o → NoRec o ∨ (o.cls = .type "range") → g'.get? b = some o) : ∀ {p : PV} {v : Value}, Rep g p v → Rep g' p v
  | .none, _, h => h
  | .bool _, _, h => h
  | .int _, _, h => h
  | .str _, _, h => h
  | .bytes _, _, h => h
  | .tup vs, _, h => by
    simp only [Rep] at h ⊢
    refine nn fun nG => ?_
    obtain ⟨a, ws, e, ⟨o, ho, hc, n, hd⟩, hr, hz⟩ := h
    refine nG ?_
    exact ⟨a, ws, e, ⟨o, s _ _ ho (.inl fun vs q => by rw [hd] at q; cases q), hc, n, hd⟩, Reps.off s hr, hz⟩
  | .lst vs, _, h => by
    simp only [Rep] at h ⊢
    refine nn fun nG => ?_
    obtain ⟨a, ws, e, ⟨o, ho, hc, n, hd⟩, hr, hz⟩ := h
    refine nG ?_
    exact ⟨a, ws, e, ⟨o, s _ _ ho (.inl fun vs q => by rw [hd] at q; cases q), hc, n, hd⟩, Reps.off s hr, hz⟩
  | .obj c ns vs, _, h => by
    simp only [Rep] at h ⊢
    refine nn fun nG => ?_
    obtain ⟨x, dx, ws, e, hx, ⟨o, es, ep, ho, hd, hk⟩, hr, hz⟩ := h
    refine nG ?_
    exact ⟨x, dx, ws, e, s _ _ hx (.inl fun vs q => by cases q), ⟨o, es, ep, s _ _ ho (.inl fun vs q => by rw [hd] at q; cases q), hd, hk⟩, Reps.off s hr, hz⟩
  | .rng n, _, h => by
    simp only [Rep] at h ⊢
    refine nn fun nG => ?_
    obtain ⟨a, t, u, w, e, hz, hr⟩ := h
    refine nG ?_
    exact ⟨a, t, u, w, e, hz, s _ _ hr (.inr rfl)⟩
  | .cell _, _, h => h
  | .raw _, _, h => h
theorem Reps.off {g g' : Heap} (s : ∀ b o, g.get? b = some o → NoRec o ∨ (o.cls = .type "range") → g'.get? b = some o) : ∀ {ps : List PV} {vs : List Value}, Reps g ps vs → Reps g' ps vs
  | [], _, h => h
  | p :: ps, _, h => by
    simp only [Reps] at h ⊢
    refine nn fun nG => ?_
    obtain ⟨v, r, e, h1, h2⟩ := h
    refine nG ?_
    exact ⟨v, r, e, Rep.off s h1, Reps.off s h2⟩
end

theorem Reps.length {g : Heap} : ∀ {ps : List PV} {vs : List Value}, Reps g ps vs → vs.length = ps.length
  | [], _, h => by simp only [Reps] at h; rw [h]; rfl
  | p :: ps, _, h => by
    simp only [Reps] at h
    refine nn fun nG => ?_
    obtain ⟨v, r, rfl, _, h2⟩ := h
    refine nG ?_
    rw [List.length_cons, List.length_cons, Reps.length h2]
theorem Reps.append {g : Heap} : ∀ {ps qs : List PV} {vs us : List Value}, Reps g ps vs → Reps g qs us → Reps g (ps ++ qs) (vs ++ us)
  | [], _, _, _, h, h' => by simp only [Reps] at h; subst h; exact h'
  | p :: ps, _, _, _, h, h' => by
    simp only [Reps] at h
    refine nn fun nG => ?_
    obtain ⟨v, r, rfl, h1, h2⟩ := h
    refine nG ?_
    rw [List.cons_append]
    simp only [Reps]
    exact ⟨v, _, rfl, h1, Reps.append h2 h'⟩
theorem Reps.get {g : Heap} : ∀ {ps : List PV} {vs : List Value} {i : Nat} {p : PV}, Reps g ps vs → ps[i]? = some p → ∃ v, vs[i]? = some v ∧ Rep g p v
  | [], _, _, _, _, e => by exact nns e
  | q :: ps, _, 0, p, h, e => by
    simp only [Reps] at h
    obtain ⟨v, r, rfl, h1, _⟩ := h
    cases e
    exact ⟨v, rfl, h1⟩
  | q :: ps, _, i + 1, p, h, e => by
    simp only [Reps] at h
    refine nn fun nG => ?_
    obtain ⟨v, r, rfl, _, h2⟩ := h
    refine nG ?_
    exact Reps.get (i := i) h2 (by simpa using e)
theorem Reps.take {g : Heap} : ∀ {ps : List PV} {vs : List Value} (n : Nat), Reps g ps vs → Reps g (ps.take n) (vs.take n)
  | [], _, _, h => by simp only [Reps] at h; subst h; simp [Reps]
  | _ :: _, _, 0, _ => by simp [Reps]
  | q :: ps, _, n + 1, h => by
    simp only [Reps] at h
    refine nn fun nG => ?_
    obtain ⟨v, r, rfl, h1, h2⟩ := h
    refine nG ?_
    simp only [List.take_succ_cons, Reps]
    exact ⟨v, _, rfl, h1, Reps.take n h2⟩
theorem Reps.drop {g : Heap} : ∀ {ps : List PV} {vs : List Value} (n : Nat), Reps g ps vs → Reps g (ps.drop n) (vs.drop n)
  | [], _, _, h => by simp only [Reps] at h; subst h; simp [Reps]
  | _ :: _, _, 0, h => h
  | q :: ps, _, n + 1, h => by
    simp only [Reps] at h
    refine nn fun nG => ?_
    obtain ⟨v, r, rfl, h1, h2⟩ := h
    refine nG ?_
    simpa using Reps.drop n h2

noncomputable def RepC (g : Heap) (ρ : List (Addr × Addr)) (p : PV) (v : Value) : Prop := match p with
  | .cell k => ∃ q, ρ[k]? = some q ∧ v = .ref q.1
  | p => Rep g p v

noncomputable def NewExc (h : Heap) (e : Addr) : Prop := ∃ oe vs, h.get? e = some oe ∧ oe.cls = .ref 52 ∧ oe.data = .fields vs ∧ vs[1]? = some .none ∧ ∃ a0, vs[0]? = some a0

noncomputable def LList (h : Heap) (a : Addr) (items : Array Value) : Prop := ∃ n sl, h.get? a = some { cls := .type "list", data := .seq items n, slots := sl }
theorem LList.isList {h : Heap} {a : Addr} {items : Array Value} (x : LList h a items) : h.IsList a items := let ⟨n, sl, e⟩ := x; ⟨_, e, rfl, n, rfl⟩
noncomputable def CellAt (g h : Heap) (p : Addr × Addr) : Cell → Prop
  | .list vs => p.1 = p.2 ∧ ∃ ws, LList h p.2 ws.toArray ∧ Reps g vs ws ∧ ws.length ≤ sizeLine
  | .inst c ns vs => g.get? p.1 = some (instObj c p.2) ∧ ∃ ws, h.Ns1 p.2 (wget ns ws) ∧ Reps g vs ws ∧ ns.length = vs.length
  | .exc => p.1 = p.2 ∧ NewExc h p.2

structure Cells (g h : Heap) (ρ : List (Addr × Addr)) (σ : List Cell) : Prop where
  len : ρ.length = σ.length
  at_ : ∀ (k : Nat) p c, ρ[k]? = some p → σ[k]? = some c → CellAt g h p c

/- what stood is as it was, but for slots, records and the addresses of mu -/
noncomputable def UpTo (mu : List Addr) (H h : Heap) : Prop := ∀ b o, H.get? b = some o → NoRec o → ∃ o', h.get? b = some o' ∧ NoRec o' ∧ (b ∉ mu → ∃ sl, o' = { o with slots := sl })
noncomputable def Free (mu : List Addr) (H : Heap) (a : Addr) : Prop := ∀ o, H.get? a = some o → NoRec o → a ∈ mu
theorem Free.none {mu : List Addr} {H : Heap} {a : Addr} (h : H.get? a = none) : Free mu H a := fun o e ζ => by rw [h] at e; exact nns e
theorem Free.mem {mu : List Addr} {H : Heap} {a : Addr} (h : a ∈ mu) : Free mu H a := fun ζ ζ ζ => h
theorem UpTo.of_stays {mu : List Addr} {H h : Heap} (s : H.StaysIn h) : UpTo mu H h := fun b o e n => ⟨o, s b o e, n, fun ζ => ⟨o.slots, rfl⟩⟩

structure Step (mu : List Addr) (g h g' h' : Heap) : Prop where
  up : UpTo mu h h'
  gg : g.StaysIn g'
  gn : ∀ b o, h.get? b = some o → NoRec o → g.get? b = none → g'.get? b = none

theorem StaysIn.refl (h : Heap) : h.StaysIn h := fun ζ ζ e => e
theorem StaysIn.trans {a b c : Heap} (x : a.StaysIn b) (y : b.StaysIn c) : a.StaysIn c := fun ζ ζ e => y _ _ (x _ _ e)

theorem Step.refl (mu : List Addr) (g h : Heap) : Step mu g h g h := ⟨.of_stays (StaysIn.refl h), StaysIn.refl g, fun ζ ζ ζ ζ e => e⟩
theorem Step.of_stays {mu : List Addr} {g h h' : Heap} (s : h.StaysIn h') : Step mu g h g h' := ⟨.of_stays s, StaysIn.refl g, fun ζ ζ ζ ζ e => e⟩
theorem Step.trans {mu mu' : List Addr} {g₁ h₁ g₂ h₂ g₃ h₃ : Heap} (x : Step mu g₁ h₁ g₂ h₂) (y : Step mu' g₂ h₂ g₃ h₃) (hm : ∀ b, b ∈ mu' → Free mu h₁ b) : Step mu g₁ h₁ g₃ h₃ := by
  refine ⟨fun b o e n => ?_, StaysIn.trans x.gg y.gg, fun b o e n z => ?_⟩
  · refine nn fun nG => ?_
    obtain ⟨o2, e2, n2, s2⟩ := x.up b o e n
    obtain ⟨o3, e3, n3, s3⟩ := y.up b o2 e2 n2
    refine nG ?_
    refine ⟨o3, e3, n3, fun hb => ?_⟩
    obtain ⟨sl, rfl⟩ := s2 hb
    obtain ⟨sl', rfl⟩ := s3 fun q => hb (hm b q o e n)
    exact ⟨sl', rfl⟩
  · obtain ⟨o2, e2, n2, _⟩ := x.up b o e n
    exact y.gn b o2 e2 n2 (x.gn b o e n z)
theorem Step.weaken {mu mu' : List Addr} {g h g' h' : Heap} (x : Step mu g h g' h') (hm : ∀ b, b ∈ mu → Free mu' h b) : Step mu' g h g' h' := Step.trans (Step.refl mu' g h) x hm
theorem Step.sameBut {g h h' : Heap} {a : Addr} (s : Heap.SameBut a h h') (ha : ∃ o, h'.get? a = some o ∧ NoRec o) : Step [a] g h g h' := by
  refine ⟨fun b o e n => ?_, StaysIn.refl g, fun ζ ζ ζ ζ e => e⟩
  by_cases q : b = a
  · subst q
    obtain ⟨o', e', n'⟩ := ha
    exact ⟨o', e', n', fun z => absurd (List.mem_singleton.mpr rfl) z⟩
  · exact ⟨o, (s.2 b q).trans e, n, fun ζ => ⟨o.slots, rfl⟩⟩

theorem noRec_slots {o : Obj} (n : NoRec o) (sl : Array (Option Value)) : NoRec { o with slots := sl } := n
theorem noRec_ns {h : Heap} {a : Addr} {m : Str → Option Value} (x : h.Ns a m) : ∃ o, h.get? a = some o ∧ NoRec o := by
  refine nn fun nG => ?_
  obtain ⟨o, es, ep, ho, hd, r⟩ := x
  refine nG ?_
  exact ⟨o, ho, fun vs q => by rw [hd] at q; cases q⟩
theorem noRec_list {h : Heap} {a : Addr} {its : Array Value} (x : h.IsList a its) : ∃ o, h.get? a = some o ∧ NoRec o := by
  refine nn fun nG => ?_
  obtain ⟨o, ho, hc, n, hd⟩ := x
  refine nG ?_
  exact ⟨o, ho, fun vs q => by rw [hd] at q; cases q⟩

theorem ns_up {mu : List Addr} {h h' : Heap} {a : Addr} {m : Str → Option Value} (x : h.Ns a m) (u : UpTo mu h h') (ha : a ∉ mu) : h'.Ns a m := by
  refine nn fun nG => ?_
  obtain ⟨o, es, ep, ho, hd, r⟩ := x
  obtain ⟨o', e, _, s⟩ := u a o ho fun vs q => by rw [hd] at q; cases q
  obtain ⟨sl, rfl⟩ := s ha
  refine nG ?_
  exact ⟨_, es, ep, e, hd, r⟩
theorem ns1_up {mu : List Addr} {h h' : Heap} {a : Addr} {m : Str → Option Value} (x : h.Ns1 a m) (u : UpTo mu h h') (ha : a ∉ mu) : h'.Ns1 a m := by
  refine nn fun nG => ?_
  obtain ⟨o, es, ep, ho, hd, r⟩ := x
  obtain ⟨o', e, _, s⟩ := u a o ho fun vs q => by rw [hd] at q; cases q
  obtain ⟨sl, rfl⟩ := s ha
  refine nG ?_
  exact ⟨_, es, ep, e, hd, r⟩
theorem isList_up {mu : List Addr} {h h' : Heap} {a : Addr} {its : Array Value} (x : h.IsList a its) (u : UpTo mu h h') (ha : a ∉ mu) : h'.IsList a its := by
  refine nn fun nG => ?_
  obtain ⟨o, ho, hc, n, hd⟩ := x
  obtain ⟨o', e, _, s⟩ := u a o ho fun vs q => by rw [hd] at q; cases q
  obtain ⟨sl, rfl⟩ := s ha
  refine nG ?_
  exact ⟨_, e, hc, n, hd⟩
theorem llist_up {mu : List Addr} {h h' : Heap} {a : Addr} {its : Array Value} (x : LList h a its) (u : UpTo mu h h') (ha : a ∉ mu) : LList h' a its := by
  refine nn fun nG => ?_
  obtain ⟨n, sl, ho⟩ := x
  obtain ⟨o', e, _, s⟩ := u a _ ho fun vs q => by cases q
  obtain ⟨sl, rfl⟩ := s ha
  refine nG ?_
  exact ⟨n, sl, e⟩
theorem ffs_step {mu : List Addr} {g h g' h' : Heap} (x : Step mu g h g' h') : ∀ {l : List Env}, h.FunFrames g l → h'.FunFrames g' l
  | [], _ => trivial
  | env :: r, ⟨hk, ⟨L, o, hf, hn, ho, hd⟩, hr⟩ => by
    obtain ⟨o', e', n', _⟩ := x.up L o ho hd
    exact ⟨hk, ⟨L, o', hf, x.gn L o ho hd hn, e', n'⟩, ffs_step x hr⟩

structure Inv (W : Wd) (envs : List Env) (G H : Heap) (mu : List Addr) (L : Addr) (mv : Str → Option Value) (g : Heap) (ρ : List (Addr × Addr)) (σ : List Cell) (h : Heap) : Prop where
  kn : Kn W g
  keep : g.StaysIn h
  ns : h.Ns L mv
  ffs : h.FunFrames g envs
  gL : g.get? L = none
  st : Step mu G H g h
  cells : Cells g h ρ σ
  cg : ∀ p ∈ ρ, g.get? p.2 = none ∧ p.2 ≠ L
  cH : ∀ p ∈ ρ, Free mu H p.2
  cnd : (ρ.map (·.2)).Nodup

theorem RepC.mono {g g' : Heap} {ρ ρ' : List (Addr × Addr)} (s : g.StaysIn g') (hp : ρ <+: ρ') {p : PV} {v : Value} (h : RepC g ρ p v) : RepC g' ρ' p v := by
  induction p using PV.casesOn with
  | cell k =>
    obtain ⟨q, e, rfl⟩ := h
    obtain ⟨t, rfl⟩ := hp
    exact ⟨q, by rw [List.getElem?_append_left (List.getElem?_eq_some_iff.mp e).1]; exact e, rfl⟩
  | _ => exact Rep.mono s h

theorem CellAt.keeps {g g' h h' : Heap} {p : Addr × Addr} {c : Cell} (sg : g.StaysIn g') (k : ∀ o, h.get? p.2 = some o → h'.get? p.2 = some o) (x : CellAt g h p c) : CellAt g' h' p c := by
  induction c using Cell.casesOn with
  | list vs =>
    refine nn fun nG => ?_
    obtain ⟨e, ws, ⟨n, sl, ho⟩, hr, hz⟩ := x
    refine nG ?_
    exact ⟨e, ws, ⟨n, sl, k _ ho⟩, Reps.mono sg hr, hz⟩
  | inst c ns vs =>
    refine nn fun nG => ?_
    obtain ⟨e, ws, ⟨o, es, ep, ho, r⟩, hr, hz⟩ := x
    refine nG ?_
    exact ⟨sg _ _ e, ws, ⟨o, es, ep, k o ho, r⟩, Reps.mono sg hr, hz⟩
  | exc =>
    obtain ⟨e, oe, vs, ho, r⟩ := x
    exact ⟨e, oe, vs, k oe ho, r⟩
theorem noExc_get : ∀ {σ : List Cell} {k : Nat}, noExc σ = true → σ[k]? ≠ some .exc
  | [], k, _, e => by exact nns e
  | .exc :: _, _, h, _ => by exact nft h
  | .list _ :: r, 0, _, e => by cases e
  | .inst _ _ _ :: r, 0, _, e => by cases e
  | .list _ :: r, k + 1, h, e => noExc_get (σ := r) (k := k) h (by simpa using e)
  | .inst _ _ _ :: r, k + 1, h, e => noExc_get (σ := r) (k := k) h (by simpa using e)
theorem CellAt.up {g g' h h' : Heap} {p : Addr × Addr} {c : Cell} {mu : List Addr} (sg : g.StaysIn g') (u : UpTo mu h h') (hp : p.2 ∉ mu) (hc : c ≠ .exc) (x : CellAt g h p c) : CellAt g' h' p c := by
  induction c using Cell.casesOn with
  | list vs =>
    refine nn fun nG => ?_
    obtain ⟨e, ws, hl, hr, hz⟩ := x
    refine nG ?_
    exact ⟨e, ws, llist_up hl u hp, Reps.mono sg hr, hz⟩
  | inst c ns vs =>
    refine nn fun nG => ?_
    obtain ⟨e, ws, hn, hr, hz⟩ := x
    refine nG ?_
    exact ⟨sg _ _ e, ws, ns1_up hn u hp, Reps.mono sg hr, hz⟩
  | exc => exact absurd rfl hc
theorem CellAt.noRec {g h : Heap} {p : Addr × Addr} {c : Cell} (hc : c ≠ .exc) (x : CellAt g h p c) : ∃ o, h.get? p.2 = some o ∧ NoRec o := by
  induction c using Cell.casesOn with
  | list vs => obtain ⟨e, ws, hl, _⟩ := x; exact noRec_list hl.isList
  | inst c ns vs => obtain ⟨e, ws, hn, _⟩ := x; exact noRec_ns hn.ns
  | exc => exact absurd rfl hc

section
variable {W : Wd} {envs : List Env} {G H : Heap} {mu : List Addr} {L : Addr} {mv : Str → Option Value} {g : Heap} {ρ : List (Addr × Addr)} {σ : List Cell} {h : Heap}

theorem Inv.grown (I : Inv W envs G H mu L mv g ρ σ h) {h' : Heap} (s : h.StaysIn h') : Inv W envs G H mu L mv g ρ σ h' := by
  have y : Step [] g h g h' := Step.of_stays s
  exact ⟨I.kn, StaysIn.trans I.keep s, I.ns.keeps s, ffs_step y I.ffs, I.gL, I.st.trans y (fun ζ q => nim q),
    ⟨I.cells.len, fun k p c e1 e2 => (I.cells.at_ k p c e1 e2).keeps (StaysIn.refl g) fun o e => s _ o e⟩, I.cg, I.cH, I.cnd⟩
theorem stays_push (h : Heap) (o : Obj) : h.StaysIn (h.push o) := fun ζ ζ e => Heap.get?_push_of_some _ e
theorem Inv.push (I : Inv W envs G H mu L mv g ρ σ h) (o : Obj) : Inv W envs G H mu L mv g ρ σ (h.push o) := I.grown (stays_push h o)

theorem Inv.store (I : Inv W envs G H mu L mv g ρ σ h) (HL : Free mu H L) {h' : Heap} {mv' : Str → Option Value} (s : Heap.SameBut L h h') (hn : h'.Ns L mv') : Inv W envs G H mu L mv' g ρ σ h' := by
  have y : Step [L] g h g h' := Step.sameBut s (noRec_ns hn)
  refine ⟨I.kn, fun b o e => (s.2 b fun q => by subst q; rw [I.gL] at e; exact nns e).trans (I.keep b o e), hn, ffs_step y I.ffs, I.gL, I.st.trans y (fun b q => by rw [List.mem_singleton.mp q]; exact HL),
    ⟨I.cells.len, fun k p c e1 e2 => (I.cells.at_ k p c e1 e2).keeps (StaysIn.refl g) fun o e => (s.2 p.2 (I.cg p (List.mem_of_getElem? e1)).2).trans e⟩, I.cg, I.cH, I.cnd⟩

theorem nodup_core {ρ : List (Addr × Addr)} (nd : (ρ.map (·.2)).Nodup) {i j : Nat} {p q : Addr × Addr} (hi : ρ[i]? = some p) (hj : ρ[j]? = some q) (e : p.2 = q.2) : i = j := by
  have e1 : (ρ.map (·.2))[i]? = some p.2 := by rw [List.getElem?_map, hi]; rfl
  have e2 : (ρ.map (·.2))[j]? = some p.2 := by rw [List.getElem?_map, hj]; exact congrArg some e.symm
  have hl := (List.getElem?_eq_some_iff.mp e1).1
  exact (List.getElem?_inj hl nd).mp (e1.trans e2.symm)

theorem Inv.core (I : Inv W envs G H mu L mv g ρ σ h) {h' : Heap} {k : Nat} {p : Addr × Addr} {c : Cell} (hk : ρ[k]? = some p) (s : Heap.SameBut p.2 h h') (hc : CellAt g h' p c) (he : c ≠ .exc) : Inv W envs G H mu L mv g ρ (σ.set k c) h' := by
  have hp := I.cg p (List.mem_of_getElem? hk)
  have y : Step [p.2] g h g h' := Step.sameBut s (hc.noRec he)
  refine ⟨I.kn, fun b o e => (s.2 b fun q => by subst q; rw [hp.1] at e; exact nns e).trans (I.keep b o e), I.ns.sameBut s (Ne.symm hp.2), ffs_step y I.ffs, I.gL,
    I.st.trans y (fun b q => by rw [List.mem_singleton.mp q]; exact I.cH p (List.mem_of_getElem? hk)), ⟨by rw [List.length_set]; exact I.cells.len, fun j q d e1 e2 => ?_⟩, I.cg, I.cH, I.cnd⟩
  by_cases hj : k = j
  · subst hj
    rw [hk] at e1; cases e1
    have hl : k < σ.length := by
      have := (List.getElem?_eq_some_iff.mp hk).1
      rw [I.cells.len] at this; exact this
    rw [List.getElem?_set_self hl] at e2
    cases e2
    exact hc
  · rw [List.getElem?_set_ne hj] at e2
    refine (I.cells.at_ j q d e1 e2).keeps (StaysIn.refl g) fun o e => (s.2 q.2 fun z => hj ?_).trans e
    exact nodup_core I.cnd hk e1 z.symm
end

/- a part of a heap -/
noncomputable def only (h : Heap) (P : Addr → Bool) : Heap := ⟨h.objs.mapIdx fun i o => if P i then o else { cls := .none, data := .freed }, h.life⟩
theorem get_only (h : Heap) (P : Addr → Bool) (b : Addr) : (only h P).get? b = if P b then h.get? b else none := by
  unfold only Heap.get?
  simp only [Array.getElem?_mapIdx]
  induction hb : h.objs[b]? using Option.casesOn with
  | none => simp
  | some o =>
    simp only [Option.map_some]
    by_cases q : P b = true
    · simp [q]
    · simp [q]
theorem only_in {h : Heap} {P : Addr → Bool} : (only h P).StaysIn h := fun b o e => by
  rw [get_only] at e
  split at e
  · exact e
  · exact nns e

noncomputable def extP (g : Heap) (as : List Addr) (b : Addr) : Bool := (g.get? b).isSome || as.contains b
noncomputable def ext (g h : Heap) (as : List Addr) : Heap := only h (extP g as)
theorem ext_in {g h : Heap} {as : List Addr} : (ext g h as).StaysIn h := only_in
theorem ext_stays {g h : Heap} {as : List Addr} (k : g.StaysIn h) : g.StaysIn (ext g h as) := fun b o e => by
  unfold ext
  rw [get_only, if_pos (by unfold extP; rw [e]; rfl)]
  exact k b o e
theorem ext_new {g h : Heap} {as : List Addr} {a : Addr} (ha : a ∈ as) : (ext g h as).get? a = h.get? a := by
  unfold ext
  rw [get_only, if_pos (by unfold extP; rw [List.contains_iff_mem.mpr ha, Bool.or_true])]
theorem ext_none {g h : Heap} {as : List Addr} {b : Addr} (hb : g.get? b = none) (hn : b ∉ as) : (ext g h as).get? b = none := by
  unfold ext
  rw [get_only, if_neg]
  unfold extP
  rw [hb]
  simpa using hn

section
variable {W : Wd} {envs : List Env} {G H : Heap} {mu : List Addr} {L : Addr} {mv : Str → Option Value} {g : Heap} {ρ : List (Addr × Addr)} {σ : List Cell} {h : Heap}

/- new objects, kept for good -/
theorem Inv.ext (I : Inv W envs G H mu L mv g ρ σ h) {h' : Heap} (as : List Addr) (s : h.StaysIn h') (hn : ∀ a ∈ as, h.get? a = none) (hc : ∀ p ∈ ρ, p.2 ∉ as) : Inv W envs G H mu L mv (Mine.ext g h' as) ρ σ h' := by
  have kg : g.StaysIn h' := StaysIn.trans I.keep s
  have y : Step [] g h (Mine.ext g h' as) h' := ⟨.of_stays s, ext_stays kg, fun b o e n z => ext_none z fun q => by rw [hn b q] at e; cases e⟩
  refine ⟨I.kn.keeps (ext_stays kg), ext_in, I.ns.keeps s, ffs_step y I.ffs, ext_none I.gL fun q => ?_, I.st.trans y (fun ζ q => nim q),
    ⟨I.cells.len, fun k p c e1 e2 => (I.cells.at_ k p c e1 e2).keeps (ext_stays kg) fun o e => s _ o e⟩, fun p hp => ⟨ext_none (I.cg p hp).1 (hc p hp), (I.cg p hp).2⟩, I.cH, I.cnd⟩
  obtain ⟨o, es, ep, ho, _⟩ := I.ns
  rw [hn L q] at ho; exact nns ho
end
end Mine
end
section
set_option maxRecDepth 100000
namespace Mine
open PySem PySem.W PyProof.Rows PySem.Spec PySem.Calls PySem.SeqAt

section
variable {prog : Program} {w : World} {A : Around} {E : Value → Shared → Prop} {s : Shared}

theorem LIM_line : LIM = sizeLine := by skip; rfl

theorem br_true {c : Bool} {t e o : Out} (h : br c t e = o) (he : e ≠ o) : c = true ∧ t = o := by
  induction c using Bool.casesOn with
  | true => exact ⟨rfl, h⟩
  | false => exact absurd h he
theorem br_stuck {c : Bool} {t o : Out} (h : br c t .stuck = o) (ho : o ≠ .stuck) : c = true ∧ t = o := br_true h fun e => ho e.symm
theorem opt_some {α : Type} {x : Option α} {k : α → Out} {o : Out} (h : opt x k = o) (ho : o ≠ .stuck) : ∃ a, x = some a ∧ k a = o := by
  induction x using Option.casesOn with
  | none => exact absurd h.symm ho
  | some a => exact ⟨a, rfl, h⟩

theorem ii_some {a b : PV} {f : Int → Int → Out} {o : Out} (h : ii a b f = o) (ho : o ≠ .stuck) : ∃ x y, a = .int x ∧ b = .int y ∧ f x y = o := by
  induction a using PV.casesOn with
  | int x =>
    induction b using PV.casesOn with
    | int y => exact ⟨x, y, rfl, rfl, h⟩
    | _ => exact (ho h.symm).elim
  | _ => exact (ho h.symm).elim
theorem p_binop {op : Operator} {a b : PV} {va vb : Value} {k : PV → Out} {o : Out} {Q : Value → Shared → Prop} (h : binop op a b k = o) (ho : o ≠ .stuck) (ra : Rep s.heap a va) (rb : Rep s.heap b vb)
    (hq : ∀ p v tk, k p = o → (∀ h : Heap, Rep h p v) → Q v { s with toks := tk }) : wpAny (model prog w) A (binaryOp op va vb) Q E s := by
  induction op using PySem.Operator.casesOn with
  | Add =>
    induction a using PV.casesOn with
    | int x =>
      induction b using PV.casesOn with
      | int y =>
        obtain ⟨t, rfl⟩ := ra; obtain ⟨u, rfl⟩ := rb
        exact add_int (hq _ _ _ h fun ζ => ⟨_, rfl⟩)
      | _ => exact (ho h.symm).elim
    | bytes x =>
      induction b using PV.casesOn with
      | bytes y =>
        obtain ⟨_, t, rfl⟩ := ra; obtain ⟨_, u, rfl⟩ := rb
        obtain ⟨h1, h2⟩ := br_stuck h ho
        have := of_decide_eq_true h1
        exact KBy.add_bytes this fun t' tk => hq _ _ _ h2 fun ζ => ⟨by rw [Array.size_append]; exact this, _, rfl⟩
      | _ => exact (ho h.symm).elim
    | str x =>
      induction b using PV.casesOn with
      | str y =>
        obtain ⟨_, t, rfl⟩ := ra; obtain ⟨_, u, rfl⟩ := rb
        obtain ⟨h1, h2⟩ := br_stuck h ho
        have := of_decide_eq_true h1
        exact add_str (fun t' tk => hq _ _ _ h2 fun ζ => ⟨by rw [Str.length_append]; exact this, _, rfl⟩) (by skip; exact this)
      | _ => exact (ho h.symm).elim
    | _ => exact (ho h.symm).elim
  | Sub =>
    obtain ⟨x, y, rfl, rfl, h⟩ := ii_some h ho
    obtain ⟨t, rfl⟩ := ra; obtain ⟨u, rfl⟩ := rb
    exact sub_int (hq _ _ _ h fun ζ => ⟨_, rfl⟩)
  | Mod =>
    obtain ⟨x, y, rfl, rfl, h⟩ := ii_some h ho
    obtain ⟨t, rfl⟩ := ra; obtain ⟨u, rfl⟩ := rb
    obtain ⟨h1, h2⟩ := br_stuck h ho
    exact mod_int' (Int.ne_of_gt (of_decide_eq_true h1)) (hq _ _ _ h2 fun ζ => ⟨_, rfl⟩)
  | Mult =>
    obtain ⟨x, y, rfl, rfl, h⟩ := ii_some h ho
    obtain ⟨t, rfl⟩ := ra; obtain ⟨u, rfl⟩ := rb
    obtain ⟨h1, h2⟩ := br_stuck h ho
    have h1 := of_decide_eq_true h1
    exact mul_int (hq _ _ _ h2 fun ζ => ⟨_, rfl⟩) (h1.elim (fun z => IntMulOk.of_left (intBits_le z)) fun z => IntMulOk.of_right (intBits_le z))
  | FloorDiv =>
    obtain ⟨x, y, rfl, rfl, h⟩ := ii_some h ho
    obtain ⟨t, rfl⟩ := ra; obtain ⟨u, rfl⟩ := rb
    obtain ⟨h1, h2⟩ := br_stuck h ho
    have := of_decide_eq_true h1
    exact floordiv_int (by omega) (hq _ _ _ h2 fun ζ => ⟨_, rfl⟩) (.inl (PyProof.noPylong_small (by omega)))
  | Pow =>
    obtain ⟨x, y, rfl, rfl, h⟩ := ii_some h ho
    obtain ⟨t, rfl⟩ := ra; obtain ⟨u, rfl⟩ := rb
    obtain ⟨h1, h2⟩ := br_stuck h ho
    have := of_decide_eq_true h1
    exact pow_int_small (by omega) (by omega) this.2.2 (hq _ _ _ h2 fun ζ => ⟨_, rfl⟩)
  | _ => exact (ho h.symm).elim

theorem isTuple_of {h : Heap} {a : Addr} {its : Array Value} (x : IsTup h a its) : h.IsTuple a its := x

noncomputable def EqAll (A : Around) (s : Shared) (vs us : List Value) (b : Bool) : Prop :=
  ∃ e : Nat → Bool, (∀ j v u, vs[j]? = some v → us[j]? = some u → EqAt A s v u (e j)) ∧ ((List.range (min vs.length us.length)).all e && vs.length == us.length) = b
set_option tactic.hygienic true in
theorem tAll_at {f : PV → PV → Option Bool} {A : Around} (hf : ∀ p q v u b, f p q = some b → Rep s.heap p v → Rep s.heap q u → EqAt A s v u b) :
    ∀ {xs ys : List PV} {vs us : List Value} {b : Bool}, tAll f xs ys = some b → Reps s.heap xs vs → Reps s.heap ys us → EqAll A s vs us b
  | [], [], vs, us, b, h, rv, ru => by
    simp only [Reps] at rv ru
    subst rv ru
    cases h
    exact ⟨fun ζ => true, fun j v u e => by simp at e, by simp⟩
  | [], y :: ys, vs, us, b, h, rv, ru => by
    simp only [Reps] at rv ru
    obtain ⟨_, _, rfl, _⟩ := ru
    subst rv
    cases h
    exact ⟨fun ζ => true, fun j v u e => by simp at e, by simp⟩
  | x :: xs, [], vs, us, b, h, rv, ru => by
    simp only [Reps] at rv ru
    obtain ⟨_, _, rfl, _⟩ := rv
    subst ru
    cases h
    exact ⟨fun ζ => true, fun j v u ζ e => by simp at e, by simp⟩
  | x :: xs, y :: ys, vs, us, b, h, rv, ru => by
    simp only [Reps] at rv ru
    obtain ⟨v, vs, rfl, rv1, rv2⟩ := rv
    obtain ⟨u, us, rfl, ru1, ru2⟩ := ru
    unfold tAll at h
    split at h
    · rename_i a b' e1 e2
      cases h
      obtain ⟨e, h1, h2⟩ := tAll_at hf e2 rv2 ru2
      refine ⟨fun j => match j with | 0 => a | j + 1 => e j, fun j v' u' q1 q2 => ?_, ?_⟩
      · induction j using Nat.casesOn with
        | zero => cases q1; cases q2; exact hf _ _ _ _ _ e1 rv1 ru1
        | succ j => exact h1 j v' u' (by simpa using q1) (by simpa using q2)
      · rw [← h2]
        simp only [List.length_cons, Nat.succ_min_succ, List.range_succ_eq_map, List.all_cons, List.all_map, Bool.and_assoc]
        congr 1
        simp only [Function.comp_def]
        congr 1
        skip; simp
    · exact nns h
theorem tup_same {h : Heap} {a : Addr} {ws ws' : List Value} (x : IsTup h a ws.toArray) (y : IsTup h a ws'.toArray) : ws = ws' := by
  obtain ⟨o, ho, _, k, hd⟩ := x
  obtain ⟨o', ho', _, k', hd'⟩ := y
  rw [ho] at ho'; cases ho'; rw [hd] at hd'; cases hd'; rfl
theorem lst_same {h : Heap} {a : Addr} {ws ws' : List Value} (x : h.IsList a ws.toArray) (y : h.IsList a ws'.toArray) : ws = ws' := by
  obtain ⟨o, ho, _, k, hd⟩ := x
  obtain ⟨o', ho', _, k', hd'⟩ := y
  rw [ho] at ho'; cases ho'; rw [hd] at hd'; cases hd'; rfl
set_option tactic.hygienic true in
theorem tAll_same {h : Heap} {f : PV → PV → Option Bool} (hf : ∀ p q v b, f p q = some b → Rep h p v → Rep h q v → b = true) :
    ∀ {xs ys : List PV} {vs : List Value} {b : Bool}, tAll f xs ys = some b → Reps h xs vs → Reps h ys vs → b = true
  | [], [], _, _, e, _, _ => by cases e; rfl
  | [], y :: ys, vs, _, e, r1, r2 => by
    simp only [Reps] at r1 r2
    obtain ⟨_, _, rfl, _⟩ := r2
    cases r1
  | x :: xs, [], vs, _, e, r1, r2 => by
    simp only [Reps] at r1 r2
    obtain ⟨_, _, rfl, _⟩ := r1
    cases r2
  | x :: xs, y :: ys, vs, b, e, r1, r2 => by
    simp only [Reps] at r1 r2
    obtain ⟨v, vs, rfl, a1, a2⟩ := r1
    obtain ⟨_, _, e', b1, b2⟩ := r2
    cases e'
    unfold tAll at e
    split at e
    · rename_i a b' e1 e2
      cases e
      rw [hf _ _ _ _ e1 a1 b1, tAll_same hf e2 a2 b2]; rfl
    · exact nns e
theorem tEq_same {h : Heap} : ∀ (n : Nat) {p q : PV} {v : Value} {b : Bool}, tEq n p q = some b → Rep h p v → Rep h q v → b = true
  | 0, _, _, _, _, e, _, _ => nns e
  | n + 1, p, q, v, b, e, rv, ru => by
    induction p using PV.casesOn with
    | str x =>
      induction q using PV.casesOn with
      | str y =>
        obtain rfl := Option.some.inj e
        obtain ⟨_, t, rfl⟩ := rv; obtain ⟨_, t', e'⟩ := ru
        injection e' with e' _
        exact decide_eq_true e'
      | tup ys => obtain ⟨_, t, rfl⟩ := rv; obtain ⟨a, ws, e', _⟩ := ru; exact Value.noConfusion e'
      | _ => exact nns e
    | tup xs =>
      induction q using PV.casesOn with
      | str y => obtain ⟨_, t, rfl⟩ := ru; obtain ⟨a, ws, e', _⟩ := rv; exact Value.noConfusion e'
      | tup ys =>
        obtain ⟨a, ws, rfl, ht, hr, _⟩ := rv
        obtain ⟨a', ws', e', ht', hr', _⟩ := ru
        injection e' with e'
        subst e'
        obtain rfl := tup_same ht ht'
        exact tAll_same (fun p q v b x y z => tEq_same n x y z) e hr hr'
      | _ => exact nns e
    | _ => exact nns e
theorem tEq_at : ∀ (n : Nat) {p q : PV} {v u : Value} {b : Bool} {A : Around}, tEq n p q = some b → Rep s.heap p v → Rep s.heap q u → A.units + n < cLine → EqAt A s v u b
  | 0, p, q, v, u, b, A, h, rv, ru, hu => nns h
  | n + 1, p, q, v, u, b, A, h, rv, ru, hu => by
    induction p using PV.casesOn with
    | str x =>
      induction q using PV.casesOn with
      | str y =>
        obtain rfl := Option.some.inj h
        obtain ⟨_, t, rfl⟩ := rv; obtain ⟨_, t', rfl⟩ := ru
        exact EqAt.str_str (A := A) (s := s) x t y t'
      | tup ys =>
        obtain rfl := Option.some.inj h
        obtain ⟨_, t, rfl⟩ := rv
        obtain ⟨a, ws, rfl, ht, _⟩ := ru
        exact EqAt.str_tuple x t ht (by exact chk [_,_,_] (.h 1 (.a (.a (.v 0) (.a (.v 2) (.n 1))) (.n 1)) (.v 1) .z) 1 (.a (.v 0) (.n 1)) (.v 1) rfl hu)
      | _ => exact nns h
    | tup xs =>
      induction q using PV.casesOn with
      | str y =>
        obtain rfl := Option.some.inj h
        obtain ⟨_, t, rfl⟩ := ru
        obtain ⟨a, ws, rfl, ht, _⟩ := rv
        exact EqAt.tuple_str y t ht (by exact chk [_,_,_] (.h 1 (.a (.a (.v 0) (.a (.v 2) (.n 1))) (.n 1)) (.v 1) .z) 1 (.a (.v 0) (.n 1)) (.v 1) rfl hu)
      | tup ys =>
        obtain ⟨a, ws, rfl, ht, hr, _⟩ := rv
        obtain ⟨a', ws', rfl, ht', hr', _⟩ := ru
        have h : tAll (tEq n) xs ys = some b := h
        obtain ⟨e, h1, h2⟩ := tAll_at (A := A.in1) (fun p q v u b x y z => tEq_at n x y z (by show A.units + 1 + n < cLine; exact chk [_,_,_] (.h 1 (.a (.a (.v 0) (.a (.v 1) (.n 1))) (.n 1)) (.v 2) .z) 1 (.a (.a (.a (.v 0) (.n 1)) (.v 1)) (.n 1)) (.v 2) rfl hu)) h hr hr'
        by_cases hne : a = a'
        · subst hne
          obtain rfl := tup_same ht ht'
          obtain rfl := tAll_same (fun p q v b x y z => tEq_same n x y z) h hr hr'
          exact EqAt.same _
        · refine EqAt.of_refs hne ?_
          have := RcAt.tuples (A := A) ht ht' (by exact chk [_,_,_] (.h 1 (.a (.a (.v 0) (.a (.v 2) (.n 1))) (.n 1)) (.v 1) .z) 1 (.a (.v 0) (.n 1)) (.v 1) rfl hu) (e := e) fun j h3 h4 => h1 j _ _ (by simp) (by simp)
          simp only [List.size_toArray] at this
          rwa [h2] at this
      | _ => exact nns h
    | _ => exact nns h

theorem eq_symm_dec {α : Type} [DecidableEq α] (a b : α) : (a == b) = decide (a = b) := rfl
theorem bytes_eq_dec (x y : Array UInt8) : (x.toList == y.toList) = decide (x = y) := by
  rw [Bool.eq_iff_iff]
  simp only [beq_iff_eq, decide_eq_true_eq]
  exact Array.toList_inj
/- == and != -/
theorem pvEq_both {p q : PV} {v u : Value} {b : Bool} (h : pvEq p q = some b) (rv : Rep s.heap p v) (ru : Rep s.heap q u) (hu : A.units + 20 < cLine) :
    (∀ {Q : Value → Shared → Prop}, Q (.bool b) s → wpAny (model prog w) A (compareOp .Eq v u) Q E s) ∧ (∀ {Q : Value → Shared → Prop}, Q (.bool (!b)) s → wpAny (model prog w) A (compareOp .NotEq v u) Q E s) := by
  have hu3 : A.units + 3 < cLine := Nat.lt_of_le_of_lt (Nat.add_le_add_left (by decide) _) hu
  induction p using PV.casesOn with
  | none =>
    obtain rfl := (show v = .none from rv)
    induction q using PV.casesOn with
    | none => obtain rfl := Option.some.inj h; obtain rfl := (show u = .none from ru); exact ⟨fun hq => RcAt.none_none prog w E _ hq, fun hq => RcNeAt.none_none prog w E _ hq⟩
    | lst _ =>
      obtain rfl := Option.some.inj h
      obtain ⟨a, ws, rfl, hl, _⟩ := ru
      exact ⟨fun hq => RcAt.none_list hl (by exact chk [_,_] (.h 1 (.a (.a (.v 0) (.n 3)) (.n 1)) (.v 1) .z) 1 (.a (.v 0) (.n 1)) (.v 1) rfl hu3) prog w E _ hq, fun hq => RcNeAt.none_list hl (by exact chk [_,_] (.h 1 (.a (.a (.v 0) (.n 3)) (.n 1)) (.v 1) .z) 1 (.a (.v 0) (.n 1)) (.v 1) rfl hu3) prog w E _ hq⟩
    | _ => exact nns h
  | bool a =>
    induction q using PV.casesOn with
    | bool b =>
      obtain rfl := Option.some.inj h
      obtain rfl := (show v = .bool _ from rv)
      obtain rfl := (show u = .bool _ from ru)
      exact ⟨fun hq => eq_bool hq, fun hq => ne_bool hq⟩
    | _ => exact nns h
  | int a =>
    induction q using PV.casesOn with
    | int b => obtain rfl := Option.some.inj h; obtain ⟨t, rfl⟩ := rv; obtain ⟨t', rfl⟩ := ru; exact ⟨fun hq => eq_int hq, fun hq => ne_int hq⟩
    | _ => exact nns h
  | str a =>
    induction q using PV.casesOn with
    | str b => obtain rfl := Option.some.inj h; obtain ⟨_, t, rfl⟩ := rv; obtain ⟨_, t', rfl⟩ := ru; exact ⟨fun hq => eq_str hq, fun hq => ne_str hq⟩
    | _ => exact nns h
  | bytes a =>
    induction q using PV.casesOn with
    | bytes b =>
      obtain rfl := Option.some.inj h
      obtain ⟨_, t, rfl⟩ := rv; obtain ⟨_, t', rfl⟩ := ru
      exact ⟨fun hq => PySem.W.eq_bytes (by rw [bytes_eq_dec]; exact hq), fun hq => PySem.W.ne_bytes (by rw [bne, bytes_eq_dec]; exact hq)⟩
    | _ => exact nns h
  | tup xs =>
    induction q using PV.casesOn with
    | tup ys =>
      obtain ⟨a, ws, rfl, ht, hr, _⟩ := rv
      obtain ⟨a', ws', rfl, ht', hr', _⟩ := ru
      obtain ⟨e, h1, h2⟩ := tAll_at (A := A.in1) (fun p q v u b x y z => tEq_at 8 x y z (by show A.units + 1 + 8 < cLine; exact chk [_,_] (.h 1 (.a (.a (.v 0) (.n 20)) (.n 1)) (.v 1) .z) 1 (.a (.a (.a (.v 0) (.n 1)) (.n 8)) (.n 1)) (.v 1) rfl hu)) h hr hr'
      have h3 := fun j (h3 : j < ws.toArray.size) (h4 : j < ws'.toArray.size) => h1 j ws.toArray[j] ws'.toArray[j] (by simp) (by simp)
      refine ⟨fun {Q} hq => RcAt.tuples (A := A) ht ht' (by exact chk [_,_] (.h 1 (.a (.a (.v 0) (.n 3)) (.n 1)) (.v 1) .z) 1 (.a (.v 0) (.n 1)) (.v 1) rfl hu3) (e := e) h3 prog w E Q ?_, fun {Q} hq => RcNeAt.tuples (A := A) ht ht' (by exact chk [_,_] (.h 1 (.a (.a (.v 0) (.n 3)) (.n 1)) (.v 1) .z) 1 (.a (.v 0) (.n 1)) (.v 1) rfl hu3) (e := e) h3 prog w E Q ?_⟩ <;> (simp only [List.size_toArray]; rw [h2]; exact hq)
    | _ => exact nns h
  | lst xs =>
    induction q using PV.casesOn with
    | none =>
      obtain rfl := Option.some.inj h
      obtain rfl := (show u = .none from ru)
      obtain ⟨a, ws, rfl, hl, _⟩ := rv
      exact ⟨fun hq => RcAt.list_none hl (by exact chk [_,_] (.h 1 (.a (.a (.v 0) (.n 3)) (.n 1)) (.v 1) .z) 1 (.a (.v 0) (.n 1)) (.v 1) rfl hu3) prog w E _ hq, fun hq => RcNeAt.list_none hl (by exact chk [_,_] (.h 1 (.a (.a (.v 0) (.n 3)) (.n 1)) (.v 1) .z) 1 (.a (.v 0) (.n 1)) (.v 1) rfl hu3) prog w E _ hq⟩
    | lst ys =>
      obtain ⟨a, ws, rfl, ht, hr, _⟩ := rv
      obtain ⟨a', ws', rfl, ht', hr', _⟩ := ru
      have l1 := hr.length
      have l2 := hr'.length
      have h : (match decide (xs.length = ys.length) with
        | true => tAll (tEq 8) xs ys
        | false => some false) = some b := h
      by_cases hl : xs.length = ys.length
      · rw [decide_eq_true hl] at h
        obtain ⟨e, h1, h2⟩ := tAll_at (A := A.in1) (fun p q v u b x y z => tEq_at 8 x y z (by show A.units + 1 + 8 < cLine; exact chk [_,_] (.h 1 (.a (.a (.v 0) (.n 20)) (.n 1)) (.v 1) .z) 1 (.a (.a (.a (.v 0) (.n 1)) (.n 8)) (.n 1)) (.v 1) rfl hu)) h hr hr'
        have e1 : ws.length = ws'.length := by exact Nat.le_antisymm (chk [_,_,_,_] (.h 1 (.v 0) (.v 2) (.h 1 (.v 3) (.v 1) (.h 1 (.v 2) (.v 3) .z))) 1 (.v 0) (.v 1) rfl (Nat.le_of_eq l1) (Nat.le_of_eq (Eq.symm l2)) (Nat.le_of_eq hl)) (chk [_,_,_,_] (.h 1 (.v 2) (.v 0) (.h 1 (.v 1) (.v 3) (.h 1 (.v 3) (.v 2) .z))) 1 (.v 1) (.v 0) rfl (Nat.le_of_eq (Eq.symm l1)) (Nat.le_of_eq l2) (Nat.le_of_eq (Eq.symm hl)))
        rw [← e1, Nat.min_self, beq_self_eq_true, Bool.and_true] at h2
        have h3 := fun j (h3 : j < ws.toArray.size) (h4 : j < ws'.toArray.size) => h1 j ws.toArray[j] ws'.toArray[j] (by simp) (by simp)
        refine ⟨fun {Q} hq => RcAt.lists (A := A) ht ht' e1 (by exact chk [_,_] (.h 1 (.a (.a (.v 0) (.n 3)) (.n 1)) (.v 1) .z) 1 (.a (.v 0) (.n 1)) (.v 1) rfl hu3) (e := e) h3 prog w E Q ?_, fun {Q} hq => RcNeAt.lists (A := A) ht ht' e1 (by exact chk [_,_] (.h 1 (.a (.a (.v 0) (.n 3)) (.n 1)) (.v 1) .z) 1 (.a (.v 0) (.n 1)) (.v 1) rfl hu3) (e := e) h3 prog w E Q ?_⟩ <;> (simp only [List.size_toArray]; rw [h2]; exact hq)
      · rw [decide_eq_false hl] at h
        obtain rfl := Option.some.inj h
        have hne : (ws.toArray.size != ws'.toArray.size) = true := by simp only [List.size_toArray, bne_iff_ne]; omega
        exact ⟨fun {Q} hq => RcAt.lists_lengths (A := A) ht ht' hne (by exact chk [_,_] (.h 1 (.a (.a (.v 0) (.n 3)) (.n 1)) (.v 1) .z) 1 (.a (.v 0) (.n 1)) (.v 1) rfl hu3) prog w E Q hq, fun {Q} hq => RcNeAt.lists_lengths (A := A) ht ht' hne (by exact chk [_,_] (.h 1 (.a (.a (.v 0) (.n 3)) (.n 1)) (.v 1) .z) 1 (.a (.v 0) (.n 1)) (.v 1) rfl hu3) prog w E Q hq⟩
    | _ => exact nns h
  | _ => exact nns h
theorem pvEq_eq {p q : PV} {v u : Value} {b : Bool} {Q : Value → Shared → Prop} (h : pvEq p q = some b) (rv : Rep s.heap p v) (ru : Rep s.heap q u) (hu : A.units + 20 < cLine) (hq : Q (.bool b) s) :
    wpAny (model prog w) A (compareOp .Eq v u) Q E s := (pvEq_both h rv ru hu).1 hq
theorem pvEq_ne {p q : PV} {v u : Value} {b : Bool} {Q : Value → Shared → Prop} (h : pvEq p q = some b) (rv : Rep s.heap p v) (ru : Rep s.heap q u) (hu : A.units + 20 < cLine) (hq : Q (.bool (!b)) s) :
    wpAny (model prog w) A (compareOp .NotEq v u) Q E s := (pvEq_both h rv ru hu).2 hq

/- in -/
theorem in_int_bytes {i : Int} {t u : Tok} {b : Array UInt8} {Q : Value → Shared → Prop} (h0 : 0 ≤ i) (h1 : i < 256) (hq : Q (.bool (b.contains i.toNat.toUInt8)) s) : wpAny (model prog w) A (compareOp .In (.int i t) (.bytes b u)) Q E s := by
  refine in_gives (typeIs_bytes s b u) FB.slot_bytes_contains FB.entry_bytes_contains (FB.args_bytes_contains_2 _ _) (.of_wp fun M A E s Q hq => ?_) hq
  show wpAny M A (Builtin.Bytes.containsIn "bytes.__contains__" (.bytes b u) (.int i t) >>= fun r => ret (.bool r)) _ E s
  refine wpAny_bind ?_
  unfold Builtin.Bytes.containsIn
  refine wpAny_bind (m := (asIndex (.int i t)).attempt) (wpAny_attempt (wpAny_of_eq (a := i) rfl ?_))
  refine wpAny_bind (wpAny_of_eq KBy.buffer_eq ?_)
  dsimp only
  rw [if_neg (by simp only [Bool.or_eq_true, decide_eq_true_eq]; omega)]
  exact wpAny_pure (wpAny_pure ⟨_, rfl, hq⟩)
theorem any_contains (b : Array UInt8) (i : Int) (h0 : 0 ≤ i) (h1 : i < 256) : b.contains i.toNat.toUInt8 = b.toList.any fun c => decide ((c.toNat : Int) = i) := by
  rw [Bool.eq_iff_iff, Array.contains_iff_mem, List.any_eq_true]
  constructor
  · intro hm
    refine ⟨_, Array.mem_toList_iff.mpr hm, decide_eq_true ?_⟩
    have : (i.toNat.toUInt8).toNat = i.toNat := by
      show (UInt8.ofNat i.toNat).toNat = i.toNat
      rw [UInt8.toNat_ofNat']
      omega
    omega
  · rintro ⟨c, hm, hc⟩
    have hc := of_decide_eq_true hc
    have : i.toNat.toUInt8 = c := by
      apply UInt8.toNat_inj.mp
      show (UInt8.ofNat i.toNat).toNat = c.toNat
      rw [UInt8.toNat_ofNat']
      omega
    rw [this]
    exact Array.mem_toList_iff.mp hm
theorem find_one (b : Array UInt8) (c : UInt8) : (Builtin.Bytes.find? b #[c] 0 b.size).isSome = b.toList.any fun d => d == c := by
  unfold Builtin.Bytes.find?
  rw [Bool.eq_iff_iff, List.find?_isSome, List.any_eq_true]
  simp only [List.mem_map, List.mem_range, List.size_toArray, List.length_cons, List.length_nil, beq_iff_eq]
  constructor
  · intro hz9
    refine nn fun nG => ?_
    obtain ⟨x, ⟨y, hy, rfl⟩, he⟩ := hz9
    refine nG ?_
    have hlt : y < b.size := by omega
    refine ⟨b[y], by simp, ?_⟩
    have := congrArg (fun z => z[0]?) he
    simp only [Nat.add_zero] at this
    rw [Array.getElem?_extract] at this
    simp [hlt] at this
    exact this.2
  · rintro ⟨d, hm, rfl⟩
    obtain ⟨i, hi, rfl⟩ := List.mem_iff_getElem.mp hm
    have hi' : i < b.size := by simpa using hi
    refine ⟨i, ⟨i, by omega, rfl⟩, ?_⟩
    apply Array.ext
    · simp; omega
    · intro j h1 h2
      have : j = 0 := by simp at h2; exact h2
      subst this
      simp
theorem noIndex_bytes : typeLookup (.type "bytes") (PySem.Str.ofString "__index__") = pure none := by
  skip; kernel_rfl
theorem typeName_bytes : typeName (.type "bytes") = pure "bytes" := by unfold typeName; skip; kernel_rfl
theorem cut_bytes {n : Nat} {b : Array UInt8} {t : Tok} {Q : String → Shared → Prop} (h : Q "bytes" s) : wpAny (model prog w) A (typeNameOfCut n (.bytes b t)) Q E s := by
  unfold typeNameOfCut shownTypeOf
  refine wpAny_bind (wpAny_bind (wpAny_typeOf (typeIs_bytes _ b t) ?_))
  simp only [show (Value.type "bytes" == Value.type "builtin_function_or_method") = false by decide, Bool.false_eq_true, if_false]
  refine wpAny_pure ?_
  skip
  exact wpAny_pure h
theorem in_bytes_bytes {c : UInt8} {t u : Tok} {b : Array UInt8} {Q : Value → Shared → Prop} (hh : A.handled = none)
    (hq : ∀ h' tk, s.heap.StaysIn h' → Q (.bool (b.toList.any fun d => d == c)) { s with heap := h', toks := tk }) : wpAny (model prog w) A (compareOp .In (.bytes #[c] t) (.bytes b u)) Q E s := by
  refine PySem.SeqRoads2.in_meets (S := fun A R s => A.handled = none ∧ ∀ h' tk, s.heap.StaysIn h' → R (.ok (.ret (.bool (b.toList.any fun d => d == c)))) { s with heap := h', toks := tk })
    (typeIs_bytes s b u) FB.slot_bytes_contains FB.entry_bytes_contains (FB.args_bytes_contains_2 _ _) (.of_wp fun prog w A R s hs => ?_) ⟨hh, fun h' tk st => ⟨_, rfl, hq h' tk st⟩⟩
  obtain ⟨hh, hs⟩ := hs
  show wpAny (model prog w) A.in1 (Builtin.Bytes.containsIn "bytes.__contains__" (.bytes b u) (.bytes #[c] t) >>= fun r => ret (.bool r)) _ _ s
  refine wpAny_bind ?_
  unfold Builtin.Bytes.containsIn
  refine wpAny_bind (m := (asIndex (.bytes #[c] t)).attempt) (wpAny_attempt ?_)
  unfold asIndex
  refine wpAny_bind (m := asInt? (.bytes #[c] t)) (wpAny_of_eq (a := none) rfl ?_)
  dsimp only
  refine wpAny_bind (wpAny_callSpecial?_none (name := PySem.Str.ofString "__index__") (typeIs_bytes _ _ _) noIndex_bytes ?_)
  dsimp only
  refine wpAny_bind (cut_bytes ?_)
  refine wpAny_raiseTypeError hh fun h' tk e he => ?_
  refine wpAny_bind (wpAny_of_eq KBy.buffer_eq ?_)
  dsimp only
  refine wpAny_bind (wpAny_of_eq KBy.buffer_eq ?_)
  dsimp only
  refine wpAny_bind (wpAny_rule (wpAny_pure (wpAny_pure ⟨_, rfl, ?_⟩)))
  rw [find_one]
  exact hs _ _ he.1
end
end Mine
end
section
set_option maxRecDepth 100000
namespace Mine
open PySem PySem.W PyProof.Rows PySem.Spec PySem.Calls

noncomputable def RepsC (g : Heap) (ρ : List (Addr × Addr)) : List PV → List Value → Prop
  | [], vs => vs = []
  | p :: ps, vs => ∃ v r, vs = v :: r ∧ RepC g ρ p v ∧ RepsC g ρ ps r
theorem RepsC.mono {g g' : Heap} {ρ ρ' : List (Addr × Addr)} (s : g.StaysIn g') (hp : ρ <+: ρ') : ∀ {ps : List PV} {vs : List Value}, RepsC g ρ ps vs → RepsC g' ρ' ps vs
  | [], _, h => h
  | p :: ps, _, h => by
    simp only [RepsC] at h ⊢
    refine nn fun nG => ?_
    obtain ⟨v, r, e, h1, h2⟩ := h
    refine nG ?_
    exact ⟨v, r, e, h1.mono s hp, RepsC.mono s hp h2⟩

structure Cx where
  W : Wd
  A : Around
  env : Env
  envs : List Env
  L : Addr
  fa : Addr
  mu : List Addr
  G : Heap
  H : Heap
  ns : Names
  O : Orc
  rm : Nat
  os : OsState
  gens : Array GenState

noncomputable def LocOk (ns : Names) (m : Loc) (mv : Str → Option Value) (g : Heap) (ρ : List (Addr × Addr)) : Prop :=
  ∀ x i p, slot x ns 0 = some (i, .local) → m[i]? = some (some p) → ∃ v, mv x = some v ∧ RepC g ρ p v
theorem LocOk.mono {ns : Names} {m : Loc} {mv : Str → Option Value} {g g' : Heap} {ρ ρ' : List (Addr × Addr)} (s : g.StaysIn g') (hp : ρ <+: ρ') (h : LocOk ns m mv g ρ) : LocOk ns m mv g' ρ' :=
  fun x i p e1 e2 => let ⟨v, a, b⟩ := h x i p e1 e2; ⟨v, a, b.mono s hp⟩

theorem lb_iff : ∀ {a b : List Nat}, lb a b = true ↔ a = b
  | [], [] => by simp [lb]
  | [], _ :: _ => by simp [lb]
  | _ :: _, [] => by simp [lb]
  | a :: as, b :: bs => by
    unfold lb
    induction h : Nat.beq a b using Bool.casesOn with
    | true => simp only [lb_iff, List.cons.injEq, Nat.eq_of_beq_eq_true h, true_and]
    | false =>
      simp only [Bool.false_eq_true, List.cons.injEq, false_iff, not_and]
      intro e
      rw [e, Nat.beq_refl] at h; exact ntf h
theorem seq_iff {a b : Str} : seq a b = true ↔ a = b := by
  unfold seq
  rw [lb_iff]
  constructor
  · intro h
    obtain ⟨⟨a⟩⟩ := a
    obtain ⟨⟨b⟩⟩ := b
    change a = b at h
    rw [h]
  · rintro rfl; rfl
theorem seq_false {a b : Str} (h : seq a b = false) : a ≠ b := fun e => by rw [seq_iff.mpr e] at h; exact ntf h

theorem slot_lookup {x : Str} : ∀ {ns : Names} {i j : Nat} {k : NameKind}, slot x ns i = some (j, k) → ns.lookup x = some k ∧ i ≤ j ∧ (ns[j - i]?).map (·.1) = some x
  | [], _, _, _, h => by exact nns h
  | (y, k') :: r, i, j, k, h => by
    unfold slot at h
    induction q : seq y x using Bool.casesOn with
    | true =>
      rw [q] at h
      cases h
      have := seq_iff.mp q
      subst this
      exact ⟨by simp [List.lookup], Nat.le_refl _, by simp⟩
    | false =>
      rw [q] at h
      obtain ⟨a, b, c⟩ := slot_lookup h
      refine ⟨?_, by exact Nat.le_of_lt b, ?_⟩
      · have : (x == y) = false := beq_eq_false_iff_ne.mpr fun e => seq_false q e.symm
        rw [List.lookup, this]; exact a
      · have : j - i = (j - (i + 1)) + 1 := by omega
        rw [this]; simpa using c

noncomputable def Cel (ns : Names) (cells : List (Str × Addr)) (m : Loc) (g : Heap) (ρ : List (Addr × Addr)) : Prop :=
  ∀ x i p, slot x ns 0 = some (i, .cell) → m[i]? = some (some p) → ∃ c v, cells.lookup x = some c ∧ g.IsCell c (some v) ∧ RepC g ρ p v
theorem Cel.mono {ns : Names} {cells : List (Str × Addr)} {m : Loc} {g g' : Heap} {ρ ρ' : List (Addr × Addr)} (s : g.StaysIn g') (hp : ρ <+: ρ') (h : Cel ns cells m g ρ) : Cel ns cells m g' ρ' :=
  fun x i p e1 e2 => let ⟨c, v, a, b, r⟩ := h x i p e1 e2; ⟨c, v, a, b.keeps s, r.mono s hp⟩
theorem Cel.of_no {ns : Names} {cells : List (Str × Addr)} {m : Loc} {g : Heap} {ρ : List (Addr × Addr)} (h : ∀ x ∈ ns, x.2 ≠ .cell) : Cel ns cells m g ρ := fun x i p e1 ζ => by
  exfalso
  have : ∀ {ns : Names} {i j : Nat}, slot x ns i = some (j, .cell) → ∃ y ∈ ns, y.2 = .cell := by
    intro ns
    induction ns with
    | nil => intro i j e; exact nns e
    | cons y r ih =>
      intro i j e
      obtain ⟨z, k⟩ := y
      unfold slot at e
      split at e
      · cases e; exact ⟨_, .head _, rfl⟩
      · obtain ⟨w, hw, q⟩ := ih e; exact ⟨w, .tail _ hw, q⟩
  obtain ⟨y, hy, q⟩ := this e1
  exact h y hy q
structure LocS (C : Cx) (m : Loc) (mv : Str → Option Value) (g : Heap) (ρ : List (Addr × Addr)) (os : OsState) (gens : Array GenState) : Prop where
  loc : LocOk C.ns m mv g ρ
  os_ : os = C.os
  gens_ : gens = C.gens
  cel : Cel C.ns C.env.cells m g ρ
theorem LocS.mono {C : Cx} {m : Loc} {mv : Str → Option Value} {g g' : Heap} {ρ ρ' : List (Addr × Addr)} {os : OsState} {gens : Array GenState} (s : g.StaysIn g') (hp : ρ <+: ρ') (h : LocS C m mv g ρ os gens) : LocS C m mv g' ρ' os gens := ⟨h.loc.mono s hp, h.os_, h.gens_, h.cel.mono s hp⟩
noncomputable def At (C : Cx) (m : Loc) (g : Heap) (ρ : List (Addr × Addr)) (σ : List Cell) (s : Shared) : Prop := ∃ mv, Inv C.W C.envs C.G C.H C.mu C.L mv g ρ σ s.heap ∧ LocS C m mv g ρ s.os s.gens

/- what the heap does not tell -/
noncomputable def Same (s s' : Shared) : Prop := s'.os = s.os ∧ s'.gens = s.gens
theorem Same.refl (s : Shared) : Same s s := ⟨rfl, rfl⟩
theorem Same.trans {a b c : Shared} (x : Same a b) (y : Same b c) : Same a c := ⟨y.1.trans x.1, y.2.trans x.2⟩
noncomputable def Sm (C : Cx) (s : Shared) : Prop := s.os = C.os ∧ s.gens = C.gens
theorem Sm.same {C : Cx} {s s' : Shared} (x : Sm C s) (y : Same s s') : Sm C s' := ⟨y.1.trans x.1, y.2.trans x.2⟩

/- an exception on its way in this frame -/
noncomputable def XAt (g : Heap) (l : List Env) (e : Addr) (a0 : Value) (L : Addr) (h : Heap) : Prop :=
  g.StaysIn h ∧ g.get? e = none ∧ h.FunFrames g l ∧
    ((∃ oe vs, h.get? e = some oe ∧ oe.cls = .ref 52 ∧ oe.data = .fields vs ∧ vs[1]? = some .none ∧ vs[0]? = some a0) ∨ h.TracedW g e (.ref 52) a0 ∨ h.TracedAtW g e (.ref 52) a0 (rawInt L))
noncomputable def XSt (C : Cx) (e : Addr) (h : Heap) : Prop := ∃ g a0, Kn C.W g ∧ Step C.mu C.G C.H g h ∧ XAt g C.envs e a0 C.fa h
noncomputable def Ex (C : Cx) (E : Value → Shared → Prop) (o : Out) : Prop := o = .exc → ∀ e s', Sm C s' → XSt C e s'.heap → E (.ref e) s'

structure Ready (W : Wd) (envs : List Env) (A : Around) (rm : Nat) (g : Heap) (s : Shared) : Prop where
  kn : Kn W g
  keep : g.StaysIn s.heap
  fr : A.frames = some envs
  hand : A.handled = none
  ffs : s.heap.FunFrames g envs
  dep : A.depth + rm < recursionLimit
  un : A.units + 16 * rm + 64 < cLine

noncomputable def ResAt (g h h0 : Heap) (p : PV) (v : Value) (fr : List Cell) : Prop := match fr with
  | [] => Rep g p v
  | c :: _ => ∃ x core, v = .ref x ∧ CellAt g h (x, core) c ∧ g.get? core = none ∧ Free [] h0 core

noncomputable def CallPost (W : Wd) (envs : List Env) (g : Heap) (s : Shared) (k : KV) (o : Out) (Q : Value → Shared → Prop) : Prop :=
  ∀ p v fr g' s', k p fr = o → Step [] g s.heap g' s'.heap → Kn W g' → g'.StaysIn s'.heap → ResAt g' s'.heap s.heap p v fr → Same s s' → Q v s'
noncomputable def CallExc (W : Wd) (envs : List Env) (mu : List Addr) (g : Heap) (s : Shared) (o : Out) (E : Value → Shared → Prop) : Prop :=
  o = .exc → ∀ e g' a0 s', Step mu g s.heap g' s'.heap → Kn W g' → Heap.FlyingW g' envs e (.ref 52) a0 s'.heap → Same s s' → E (.ref e) s'
noncomputable def MethPost (W : Wd) (envs : List Env) (x core : Addr) (g : Heap) (s : Shared) (k : PV → Cell → List Cell → Out) (o : Out) (Q : Value → Shared → Prop) : Prop :=
  ∀ p v c fr g' s', k p c fr = o → Step [core] g s.heap g' s'.heap → Kn W g' → g'.StaysIn s'.heap → CellAt g' s'.heap (x, core) c → ResAt g' s'.heap s.heap p v fr → (c ≠ .exc) → Same s s' → Q v s'

structure OrcOk (W : Wd) (rm : Nat) (O : Orc) : Prop where
  pf : ∀ a ps k o, O.pf a ps k = o → o ≠ .stuck → ∀ envs A g s vs Q E, Ready W envs A rm g s → Reps g ps vs → CallPost W envs g s k o Q → CallExc W envs [] g s o E → wpAny W.M A (call (.ref a) vs) Q E s
  pfk : ∀ a ps k o, O.pf a ps k = o → o ≠ .stuck → keepIn W.K (.ref a) = true
  mf : ∀ a c ps k o, O.mf a c ps k = o → o ≠ .stuck → ∀ envs A g s x core vs Q E, Ready W envs A rm g s → CellAt g s.heap (x, core) c → g.get? core = none → c ≠ .exc → Reps g ps vs →
    MethPost W envs x core g s k o Q → CallExc W envs [core] g s o E → wpAny W.M A (call (.ref a) (.ref x :: vs)) Q E s
  mfk : ∀ a c ps k o, O.mf a c ps k = o → o ≠ .stuck → keepIn W.K (.ref a) = true
  fld : ∀ c x, O.fld c x = true → findIn W.K (.ref c) (PySem.Str.ofString "__getattribute__") = some (some (.builtin "object.__getattribute__")) ∧ hasDictIn W.K c = true ∧ (∃ a, findIn W.K (.ref c) x = some a ∧ noGet W.K a = true) ∧
    findIn W.K (.ref c) (PySem.Str.ofString "__setattr__") = some (some (.builtin "object.__setattr__")) ∧ plainOver W.K c = true ∧ takerIn W.K c x = some none
  isi : ∀ c d b, O.isi c d = some b → match b with
    | true => isIn W.K (.ref c) d = true
    | false => kin_not W.K c d = true ∧ plainGet W.K c (PySem.Str.ofString "__class__") = true ∧ hasDictIn W.K c = true ∧ findIn W.K (.ref c) (PySem.Str.ofString "__class__") = some (some (.builtin "object.__class__")) ∧
        specialIn W.K (.builtin "object.__class__") (PySem.Str.ofString "__get__") = some (some (.builtin "getset_descriptor.__get__")) ∧ takesIn W.K (.builtin "object.__class__") = some true ∧ mroIn W.K c (.type "object") = some true
  x52 : subIn W.K (.ref 52) (.type "BaseException") = some true ∧ typeIn W.K (.ref 52) = some (.type "type")
  glob : ∀ x p, O.glob x = some p → ∃ v, (∀ g, Kn W g → Rep g p v) ∧ ((nsIn W.K mainGlobals x = some (some v)) ∨ (nsIn W.K mainGlobals x = some none ∧ bootBuiltins x = some v ∧ x ≠ PySem.Str.ofString "__name__"))
  meth : ∀ c x a, O.meth c x = some a → findIn W.K (.ref c) (PySem.Str.ofString "__getattribute__") = some (some (.builtin "object.__getattribute__")) ∧ findIn W.K (.ref c) (PySem.Str.ofString "__getattr__") = some none ∧
    findIn W.K (.ref c) x = some (some (.ref a)) ∧ typeIn W.K (.ref a) = some (.type "function") ∧ keepIn W.K (.ref a) = true ∧ x ≠ PySem.Str.ofString "__class__" ∧ x ≠ PySem.Str.ofString "__dict__"

structure Cx.Ok (C : Cx) : Prop where
  kind : C.env.scope.kind = .function
  names : C.env.scope.names = C.ns
  loc : C.env.locals = C.L
  glob : C.env.globals = mainGlobals
  bui : C.env.builtins = builtinsNs
  fr : C.A.frames = some C.envs
  hd : ∃ e0 outer, C.envs = e0 :: outer ∧ e0.frame = some C.fa
  frm : C.env.frame = some C.fa
  hand : C.A.handled = none
  dep : C.A.depth + C.rm < recursionLimit
  un : C.A.units + 16 * C.rm + 64 < cLine
  orc : OrcOk C.W C.rm C.O

section
variable {C : Cx} {m : Loc} {g g' : Heap} {ρ : List (Addr × Addr)} {σ : List Cell} {s : Shared}

theorem At.toks (h : At C m g ρ σ s) (tk : Tok) : At C m g ρ σ { s with toks := tk } := h
theorem At.grown (h : At C m g ρ σ s) {h' : Heap} {tk : Tok} (k : s.heap.StaysIn h') : At C m g ρ σ { s with heap := h', toks := tk } :=
  let ⟨mv, I, l⟩ := h; ⟨mv, I.grown k, l⟩
theorem At.ready (h : At C m g ρ σ s) (K : C.Ok) : Ready C.W C.envs C.A C.rm g s := let ⟨mv, I, l⟩ := h; ⟨I.kn, I.keep, K.fr, K.hand, I.ffs, K.dep, K.un⟩
theorem At.keep (h : At C m g ρ σ s) : g.StaysIn s.heap := let ⟨_, I, _⟩ := h; I.keep
theorem At.sm (h : At C m g ρ σ s) : Sm C s := let ⟨_, _, l⟩ := h; ⟨l.os_, l.gens_⟩
theorem At.kn (h : At C m g ρ σ s) : Kn C.W g := let ⟨_, I, _⟩ := h; I.kn

/- new objects kept for good -/
theorem At.ext (h : At C m g ρ σ s) {h' : Heap} {tk : Tok} (as : List Addr) (st : s.heap.StaysIn h') (hn : ∀ a ∈ as, s.heap.objs.size ≤ a) :
    At C m (Mine.ext g h' as) ρ σ { s with heap := h', toks := tk } ∧ g.StaysIn (Mine.ext g h' as) := by
  refine nn fun nG => ?_
  obtain ⟨mv, I, l⟩ := h
  refine nG ?_
  have sg : g.StaysIn (Mine.ext g h' as) := ext_stays (StaysIn.trans I.keep st)
  refine ⟨⟨mv, I.ext as st (fun a ha => Heap.get?_none_of_le (hn a ha)) fun p hp q => ?_, l.mono sg (List.prefix_refl _)⟩, sg⟩
  refine nn fun nG => ?_
  obtain ⟨k, hk⟩ := List.getElem?_of_mem hp
  have hl : k < σ.length := by rw [← I.cells.len]; exact (List.getElem?_eq_some_iff.mp hk).1
  have := I.cells.at_ k p _ hk (List.getElem?_eq_getElem hl)
  have : ∃ o, s.heap.get? p.2 = some o := by
    induction hc : σ[k] using Cell.casesOn with
    | list vs => rw [hc] at this; obtain ⟨e, ws, hl, _⟩ := this; obtain ⟨o, ho, _⟩ := noRec_list hl.isList; exact ⟨o, ho⟩
    | inst c ns vs => rw [hc] at this; obtain ⟨e, ws, hl, _⟩ := this; obtain ⟨o, ho, _⟩ := noRec_ns hl.ns; exact ⟨o, ho⟩
    | exc => rw [hc] at this; obtain ⟨e, oe, vs, ho, _⟩ := this; exact ⟨oe, ho⟩
  obtain ⟨o, ho⟩ := this
  refine nG ?_
  have h1 : p.2 < s.heap.objs.size := Heap.lt_size ho
  have h2 : s.heap.objs.size ≤ p.2 := hn _ q
  exact absurd h1 (Nat.not_lt.mpr h2)

/- a new cell -/
theorem At.fresh (h : At C m g ρ σ s) {x core : Addr} {c : Cell} (hc : CellAt g s.heap (x, core) c) (hg : g.get? core = none) (hL : core ≠ C.L) (hH : Free C.mu C.H core) (hn : ∀ p ∈ ρ, p.2 ≠ core) :
    At C m g (ρ ++ [(x, core)]) (σ ++ [c]) s ∧ ρ <+: ρ ++ [(x, core)] := by
  obtain ⟨mv, I, l⟩ := h
  refine ⟨⟨mv, ⟨I.kn, I.keep, I.ns, I.ffs, I.gL, I.st, ⟨by simp [I.cells.len], fun k p d e1 e2 => ?_⟩, ?_, ?_, ?_⟩, l.mono (StaysIn.refl g) (List.prefix_append _ _)⟩, List.prefix_append _ _⟩
  · by_cases hk : k < ρ.length
    · rw [List.getElem?_append_left hk] at e1
      rw [List.getElem?_append_left (by rw [← I.cells.len]; exact hk)] at e2
      exact I.cells.at_ k p d e1 e2
    · have hk2 : k < (ρ ++ [(x, core)]).length := (List.getElem?_eq_some_iff.mp e1).1
      have : k = ρ.length := by simp at hk2; exact Nat.le_antisymm (chk [_,_] (.h 1 (.v 1) (.v 0) (.h 2 (.a (.v 0) (.n 1)) (.a (.v 1) (.n 1)) .z)) 1 (.v 0) (.v 1) rfl (Nat.le_of_not_lt hk) hk2) (chk [_,_] (.h 2 (.v 1) (.v 0) (.h 1 (.a (.v 0) (.n 1)) (.a (.v 1) (.n 1)) .z)) 1 (.v 1) (.v 0) rfl (Nat.le_of_not_lt hk) hk2)
      subst this
      rw [List.getElem?_append_right (Nat.le_refl _)] at e1
      rw [I.cells.len, List.getElem?_append_right (Nat.le_refl _)] at e2
      simp at e1 e2
      subst e1 e2
      exact hc
  · intro p hp
    rcases List.mem_append.mp hp with q | q
    · exact I.cg p q
    · rw [List.mem_singleton.mp q]; exact ⟨hg, hL⟩
  · intro p hp
    rcases List.mem_append.mp hp with q | q
    · exact I.cH p q
    · rw [List.mem_singleton.mp q]; exact hH
  · rw [List.map_append, List.nodup_append]
    refine ⟨I.cnd, by simp, fun a ha b hb => ?_⟩
    simp at hb
    subst hb
    obtain ⟨p, hp, rfl⟩ := List.mem_map.mp ha
    exact hn p hp

theorem noRec_cells (I : ∃ mv, Inv C.W C.envs C.G C.H C.mu C.L mv g ρ σ s.heap) (hx : noExc σ = true) {p : Addr × Addr} (hp : p ∈ ρ) : ∃ o, s.heap.get? p.2 = some o ∧ NoRec o := by
  refine nn fun nG => ?_
  obtain ⟨mv, I⟩ := I
  obtain ⟨k, hk⟩ := List.getElem?_of_mem hp
  refine nG ?_
  have hl : k < σ.length := by rw [← I.cells.len]; exact (List.getElem?_eq_some_iff.mp hk).1
  have e2 := List.getElem?_eq_getElem hl
  exact (I.cells.at_ k p _ hk e2).noRec fun q => noExc_get (k := k) hx (by rw [e2, q])

/- a call has come back -/
theorem At.called (h : At C m g ρ σ s) (hx : noExc σ = true) {mu' : List Addr} {s' : Shared} (st : Step mu' g s.heap g' s'.heap) (kn : Kn C.W g') (keep : g'.StaysIn s'.heap) (sm : Same s s')
    {σ' : List Cell} (hm : (mu' = [] ∧ σ' = σ) ∨ ∃ j p c, ρ[j]? = some p ∧ mu' = [p.2] ∧ σ' = σ.set j c ∧ CellAt g' s'.heap p c) : At C m g' ρ σ' s' := by
  refine nn fun nG => ?_
  obtain ⟨mv, I, l⟩ := h
  have hmL : C.L ∉ mu' := by
    rcases hm with ⟨rfl, _⟩ | ⟨j, p, c, hj, rfl, _⟩
    · simp
    · simp only [List.mem_singleton]
      exact fun q => (I.cg p (List.mem_of_getElem? hj)).2 q.symm
  have hmf : ∀ b ∈ mu', Free C.mu C.H b := by
    rcases hm with ⟨rfl, _⟩ | ⟨j, p, c, hj, rfl, _⟩
    · simp
    · intro b hb
      rw [List.mem_singleton.mp hb]
      exact I.cH p (List.mem_of_getElem? hj)
  obtain ⟨oL, hoL, hnL⟩ := noRec_ns I.ns
  refine nG ?_
  refine ⟨mv, ⟨kn, keep, ns_up I.ns st.up hmL, ffs_step st I.ffs, st.gn _ _ hoL hnL I.gL, I.st.trans st hmf, ?_, fun p hp => ⟨?_, (I.cg p hp).2⟩, I.cH, I.cnd⟩, ⟨l.loc.mono st.gg (List.prefix_refl _), sm.1.trans l.os_, sm.2.trans l.gens_, l.cel.mono st.gg (List.prefix_refl _)⟩⟩
  · rcases hm with ⟨rfl, rfl⟩ | ⟨j, p, c, hj, rfl, rfl, hc⟩
    · exact ⟨I.cells.len, fun k p c e1 e2 => (I.cells.at_ k p c e1 e2).up st.gg st.up (by simp) fun q => noExc_get (k := k) hx (by rw [e2, q])⟩
    · refine ⟨by rw [List.length_set]; exact I.cells.len, fun k q d e1 e2 => ?_⟩
      by_cases hk : j = k
      · subst hk
        rw [hj] at e1; cases e1
        have hl : j < σ.length := by rw [← I.cells.len]; exact (List.getElem?_eq_some_iff.mp hj).1
        rw [List.getElem?_set_self hl] at e2; cases e2
        exact hc
      · rw [List.getElem?_set_ne hk] at e2
        exact (I.cells.at_ k q d e1 e2).up st.gg st.up (fun z => hk (nodup_core I.cnd hj e1 (List.mem_singleton.mp z).symm)) fun z => noExc_get (k := k) hx (by rw [e2, z])
  · refine nn fun nG => ?_
    obtain ⟨o, ho, hn⟩ := noRec_cells ⟨mv, I⟩ hx hp
    refine nG ?_
    exact st.gn _ _ ho hn (I.cg p hp).1

/- what came back may be new -/
theorem At.back (h : At C m g ρ σ s) (hx : noExc σ = true) {mu' : List Addr} {s' : Shared} (st : Step mu' g s.heap g' s'.heap) (kn : Kn C.W g') (keep : g'.StaysIn s'.heap) (sm : Same s s')
    {σ' : List Cell} (hm : (mu' = [] ∧ σ' = σ) ∨ ∃ j p c, ρ[j]? = some p ∧ mu' = [p.2] ∧ σ' = σ.set j c ∧ CellAt g' s'.heap p c) {p : PV} {v : Value} {fr : List Cell} (r : ResAt g' s'.heap s.heap p v fr)
    {k : KV} {o : Out} (hk : retK σ' p fr k = o) {Q : Prop} (hQ : ∀ p' σ'' ρ', k p' σ'' = o → At C m g' ρ' σ'' s' → RepC g' ρ' p' v → ρ <+: ρ' → Q) : Q := by
  have A' := h.called hx st kn keep sm hm
  induction fr using List.casesOn with
  | nil => exact hQ p σ' ρ hk A' (by cases p with | cell k => exact (show False from r).elim | _ => exact r) (List.prefix_refl _)
  | cons c t =>
    obtain ⟨x, core, rfl, hc, hg, hf⟩ := r
    obtain ⟨mv, I, l⟩ := h
    obtain ⟨oL, hoL, hnL⟩ := noRec_ns I.ns
    have nH : Free C.mu C.H core := fun o ho hn => by
      obtain ⟨o', ho', hn', _⟩ := I.st.up _ _ ho hn
      cases hf _ ho' hn'
    obtain ⟨A2, hpre⟩ := A'.fresh hc hg (fun q => by cases hf oL (q ▸ hoL) hnL) nH fun p hp q => by
      obtain ⟨o, ho, hn⟩ := noRec_cells ⟨mv, I⟩ hx hp
      cases hf o (q ▸ ho) hn
    have hl : σ'.length = ρ.length := by
      obtain ⟨_, I', _⟩ := A'
      exact I'.cells.len.symm
    refine hQ (.cell σ'.length) (σ' ++ [c]) (ρ ++ [(x, core)]) hk A2 ⟨(x, core), ?_, rfl⟩ hpre
    rw [hl, List.getElem?_append_right (Nat.le_refl _)]
    simp
end
end Mine
end
section
set_option maxRecDepth 100000
namespace Mine
open PySem PySem.W PyProof.Rows PySem.Spec PySem.Calls PySem.SeqAt

section
variable {prog : Program} {w : World} {A : Around} {E : Value → Shared → Prop} {s : Shared}

theorem view_rep {C : Cx} {m : Loc} {g : Heap} {ρ : List (Addr × Addr)} {σ : List Cell} (h : At C m g ρ σ s) {p : PV} {v : Value} (r : RepC g ρ p v) : (∃ k, view σ p = .cell k) ∨ Rep s.heap (view σ p) v := by
  obtain ⟨mv, I, l⟩ := h
  induction p using PV.casesOn with
  | cell k =>
    obtain ⟨q, hq, rfl⟩ := r
    unfold view
    have hl : k < σ.length := by rw [← I.cells.len]; exact (List.getElem?_eq_some_iff.mp hq).1
    have e2 := List.getElem?_eq_getElem hl
    have ca := I.cells.at_ k q _ hq e2
    simp only [e2]
    induction hc : σ[k] using Cell.casesOn with
    | list vs =>
      rw [hc] at ca
      refine nn fun nG => ?_
      obtain ⟨e, ws, hl, hr, hz⟩ := ca
      refine nG ?_
      right
      exact ⟨q.1, ws, rfl, by rw [e]; exact hl.isList, hr.mono I.keep, hz⟩
    | inst c ns vs => exact .inl ⟨k, rfl⟩
    | exc => exact .inl ⟨k, rfl⟩
  | _ => exact .inr (Rep.mono I.keep r)

theorem in_parts {x c : Value} {Q : Value → Shared → Prop} {b : Bool} (h : wpAny (model prog w) A (compareOp .In x c) (fun v s' => v = .bool b ∧ Q (.bool (!b)) s') E s) : wpAny (model prog w) A (compareOp .NotIn x c) Q E s := by
  have h : wpAny (model prog w) A (contains c x >>= fun b => pure (Value.bool b)) (fun v s' => v = .bool b ∧ Q (.bool (!b)) s') E s := h
  show wpAny (model prog w) A (contains c x >>= fun b => pure (Value.bool (!b))) Q E s
  intro Γ p hΓ
  have := h Γ p hΓ
  rw [Sem.wp_bind'] at this ⊢
  refine Sem.wp_mono _ Γ _ (fun a p' s' h' => ?_) (fun ζ ζ ζ h' => h') _ _ this
  obtain ⟨e, q⟩ := h'
  cases e
  exact q

theorem ints_reps {h : Heap} {i : Int} : ∀ {vs : List PV} {l : List Int} {ws : List Value}, intsOf vs = some l → Reps h vs ws → (∀ y ∈ ws, ∃ j t, y = .int j t) ∧ ws.any (fun y => match y with | .int j _ => j == i | _ => false) = anyInt i l
  | [], _, ws, e, r => by
    obtain rfl := (show ws = [] from r)
    obtain rfl := Option.some.inj e
    exact ⟨fun y hy => (nim hy), rfl⟩
  | .int j :: vs, _, _, e, r => by
    obtain ⟨v, r', rfl, ⟨t, rfl⟩, r2⟩ := r
    have e : (match intsOf vs with
      | some l => some (j :: l)
      | .none => .none) = some _ := e
    generalize hl : intsOf vs = c at e
    induction c using Option.casesOn with
    | none => exact nns e
    | some l =>
      obtain rfl := Option.some.inj e
      obtain ⟨h1, h2⟩ := ints_reps (i := i) hl r2
      refine ⟨fun y hy => ?_, ?_⟩
      · rcases List.mem_cons.mp hy with rfl | hy
        · exact ⟨_, _, rfl⟩
        · exact h1 y hy
      · skip
        show (j == i || _) = (decide (i = j) || _)
        congr 1
        rw [Bool.eq_iff_iff, beq_iff_eq, decide_eq_true_eq]
        exact eq_comm
theorem strs_reps {h : Heap} {i : Str} : ∀ {vs : List PV} {l : List Str} {ws : List Value}, strsOf vs = some l → Reps h vs ws → (∀ y ∈ ws, ∃ j t, y = .str j t) ∧ ws.any (fun y => match y with | .str j _ => j == i | _ => false) = anyStr i l
  | [], _, ws, e, r => by
    obtain rfl := (show ws = [] from r)
    obtain rfl := Option.some.inj e
    exact ⟨fun y hy => (nim hy), rfl⟩
  | .str j :: vs, _, _, e, r => by
    obtain ⟨v, r', rfl, ⟨_, t, rfl⟩, r2⟩ := r
    have e : (match strsOf vs with
      | some l => some (j :: l)
      | .none => .none) = some _ := e
    generalize hl : strsOf vs = c at e
    induction c using Option.casesOn with
    | none => exact nns e
    | some l =>
      obtain rfl := Option.some.inj e
      obtain ⟨h1, h2⟩ := strs_reps (i := i) hl r2
      refine ⟨fun y hy => ?_, ?_⟩
      · rcases List.mem_cons.mp hy with rfl | hy
        · exact ⟨_, _, rfl⟩
        · exact h1 y hy
      · skip
        show (j == i || _) = (decide (i = j) || _)
        congr 1
        rw [Bool.eq_iff_iff, beq_iff_eq, decide_eq_true_eq]
        exact eq_comm

theorem one1_is {α : Type} {c : α} : ∀ {l : List α}, one1 l = some c → l = [c]
  | [_], h => by rw [Option.some.inj h]
  | [], h => nns h
  | _ :: _ :: _, h => nns h
theorem pvIn_in {p q : PV} {v u : Value} {b : Bool} {Q : Value → Shared → Prop} (h : pvIn p q = some b) (rv : Rep s.heap p v) (ru : Rep s.heap q u) (hu : A.units + 20 < cLine) (hh : A.handled = none)
    (hq : ∀ h' tk, s.heap.StaysIn h' → Q (.bool b) { s with heap := h', toks := tk }) : wpAny (model prog w) A (compareOp .In v u) Q E s := by
  induction p using PV.casesOn with
  | int i =>
    refine nn fun nG => ?_
    obtain ⟨t, rfl⟩ := rv
    refine nG ?_
    induction q using PV.casesOn with
    | bytes b' =>
      obtain ⟨_, t', rfl⟩ := ru
      have h : (match decide (0 ≤ i ∧ i < 256) with
        | true => some (b'.toList.any fun c => decide ((c.toNat : Int) = i))
        | false => none) = some b := h
      generalize hd : decide (0 ≤ i ∧ i < 256) = c at h
      induction c using Bool.casesOn with
      | false => exact nns h
      | true =>
        have hd := of_decide_eq_true hd
        obtain rfl := Option.some.inj h
        refine in_int_bytes hd.1 hd.2 ?_
        rw [any_contains _ _ hd.1 hd.2]
        exact hq _ _ (StaysIn.refl _)
    | tup vs =>
      obtain ⟨a, ws, rfl, ht, hr, _⟩ := ru
      have h : (match intsOf vs with
        | some l => some (anyInt i l)
        | none => none) = some b := h
      generalize hl : intsOf vs = c at h
      induction c using Option.casesOn with
      | none => exact nns h
      | some l =>
        obtain rfl := Option.some.inj h
        obtain ⟨h1, h2⟩ := ints_reps (i := i) hl hr
        refine in_tupleAt (fun y => match y with | .int j _ => j == i | _ => false) ht ?_ ?_
        · intro y hy
          obtain ⟨j, t', rfl⟩ := h1 y (by simpa using hy)
          exact EqAt.int_int j t' i t
        · simp only [List.any_toArray, h2]
          exact hq _ _ (StaysIn.refl _)
    | _ => exact nns h
  | bytes a =>
    induction q using PV.casesOn with
    | bytes b' =>
      obtain ⟨_, t, rfl⟩ := rv; obtain ⟨_, t', rfl⟩ := ru
      have h : (match one1 a.toList with
        | some c => some (b'.toList.any fun d => d == c)
        | none => none) = some b := h
      generalize hc : one1 a.toList = c at h
      induction c using Option.casesOn with
      | none => exact nns h
      | some c =>
        obtain rfl := Option.some.inj h
        obtain rfl : a = #[c] := by
          obtain ⟨l⟩ := a
          obtain rfl : l = [c] := one1_is hc
          rfl
        exact in_bytes_bytes hh hq
    | _ => exact nns h
  | str a =>
    obtain ⟨_, t, rfl⟩ := rv
    induction q using PV.casesOn with
    | str b' =>
      obtain ⟨_, t', rfl⟩ := ru
      have h : (match one1 a.cps.toList with
        | some c => some (b'.cps.toList.any fun d => Nat.beq d c)
        | none => none) = some b := h
      generalize hc : one1 a.cps.toList = c at h
      induction c using Option.casesOn with
      | none => exact nns h
      | some c =>
        obtain rfl := Option.some.inj h
        obtain rfl : a = ⟨#[c]⟩ := by
          obtain ⟨⟨l⟩⟩ := a
          obtain rfl : l = [c] := one1_is hc
          rfl
        refine in_str ?_
        rw [StrLaws.found_one]
        have : decide (c ∈ b'.cps.toList) = b'.cps.toList.any fun d => Nat.beq d c := by
          rw [Bool.eq_iff_iff, decide_eq_true_eq, List.any_eq_true]
          constructor
          · intro hm; exact ⟨c, hm, Nat.beq_refl c⟩
          · rintro ⟨x, hx, e⟩; rw [Nat.eq_of_beq_eq_true e] at hx; exact hx
        rw [this]
        exact hq _ _ (StaysIn.refl _)
    | tup vs =>
      obtain ⟨a', ws, rfl, ht, hr, _⟩ := ru
      have h : (match strsOf vs with
        | some l => some (anyStr a l)
        | none => none) = some b := h
      generalize hl : strsOf vs = c at h
      induction c using Option.casesOn with
      | none => exact nns h
      | some l =>
        obtain rfl := Option.some.inj h
        refine nn fun nG => ?_
        obtain ⟨h1, h2⟩ := strs_reps (i := a) hl hr
        refine nG ?_
        refine in_tupleAt (fun y => match y with | .str j _ => j == a | _ => false) ht ?_ ?_
        · intro y hy
          obtain ⟨j, t', rfl⟩ := h1 y (by simpa using hy)
          exact EqAt.str_str j t' a t
        · simp only [List.any_toArray, h2]
          exact hq _ _ (StaysIn.refl _)
    | _ => exact nns h
  | _ => exact nns h

theorem cell_none {p : PV} {k : Nat} : pvEq (.cell k) p = none ∧ pvEq p (.cell k) = none := by
  constructor
  · cases p <;> rfl
  · cases p <;> rfl

theorem cmp_ok {C : Cx} {m : Loc} {g : Heap} {ρ : List (Addr × Addr)} {σ : List Cell} (I : At C m g ρ σ s) {op : CmpOp} {p q : PV} {v u : Value} {b : Bool} {Q : Value → Shared → Prop} (h : cmp σ op p q = some b)
    (rv : RepC g ρ p v) (ru : RepC g ρ q u) (hu : A.units + 20 < cLine) (hh : A.handled = none)
    (hq : ∀ h' tk, s.heap.StaysIn h' → Q (.bool b) { s with heap := h', toks := tk }) : wpAny (model prog w) A (compareOp op v u) Q E s := by
  have hq0 : Q (.bool b) s := hq _ _ (StaysIn.refl _)
  have V := view_rep I rv
  have U := view_rep I ru
  have low : ∀ {p : PV} {v : Value}, RepC g ρ p v → (∀ k, p ≠ .cell k) → Rep s.heap p v := fun {p v} r n => by
    induction p using PV.casesOn with
    | cell k => exact absurd rfl (n k)
    | _ => exact Rep.mono I.keep r
  have n1 : ∀ {c : Bool}, pvIn p q = some c → ∀ k, p ≠ .cell k := fun h k e => by subst e; exact nns h
  have n2 : ∀ {c : Bool}, pvIn p q = some c → ∀ k, q ≠ .cell k := fun h k e => by subst e; induction p using PV.casesOn <;> exact nns h
  have low2 : ∀ {c : Bool}, pvEq (view σ p) (view σ q) = some c → Rep s.heap (view σ p) v ∧ Rep s.heap (view σ q) u := fun h => by
    rcases V with ⟨k, e⟩ | V
    · rw [e, cell_none.1] at h; exact nns h
    rcases U with ⟨k, e⟩ | U
    · rw [e, cell_none.2] at h; exact nns h
    exact ⟨V, U⟩
  have both : ∀ {f : Int → Int → Bool}, cmpI p q f = some b → ∃ x y t t', v = .int x t ∧ u = .int y t' ∧ f x y = b := fun h => by
    induction p using PV.casesOn with
    | int x =>
      induction q using PV.casesOn with
      | int y =>
        obtain ⟨t, rfl⟩ := rv; obtain ⟨t', rfl⟩ := ru
        exact ⟨x, y, t, t', rfl, rfl, Option.some.inj h⟩
      | _ => exact nns h
    | _ => exact nns h
  induction op using PySem.CmpOp.casesOn with
  | Eq => exact pvEq_eq h (low2 h).1 (low2 h).2 hu hq0
  | NotEq =>
    have h : (match pvEq (view σ p) (view σ q) with
      | some c => some (!c)
      | none => none) = some b := h
    generalize hc : pvEq (view σ p) (view σ q) = c at h
    induction c using Option.casesOn with
    | none => exact nomatch h
    | some c =>
      obtain rfl := Option.some.inj h
      exact pvEq_ne hc (low2 hc).1 (low2 hc).2 hu hq0
  | Lt => obtain ⟨x, y, t, t', rfl, rfl, rfl⟩ := both h; exact lt_int hq0
  | LtE => obtain ⟨x, y, t, t', rfl, rfl, rfl⟩ := both h; exact le_int hq0
  | Gt => obtain ⟨x, y, t, t', rfl, rfl, rfl⟩ := both h; exact gt_int hq0
  | GtE => obtain ⟨x, y, t, t', rfl, rfl, rfl⟩ := both h; exact ge_int hq0
  | In => exact pvIn_in h (low rv (n1 h)) (low ru (n2 h)) hu hh hq
  | NotIn =>
    have h : (match pvIn p q with
      | some c => some (!c)
      | none => none) = some b := h
    generalize hc : pvIn p q = c at h
    induction c using Option.casesOn with
    | none => exact nomatch h
    | some c =>
      obtain rfl := Option.some.inj h
      exact in_parts (pvIn_in hc (low rv (n1 hc)) (low ru (n2 hc)) hu hh fun h' tk st => ⟨rfl, hq h' tk st⟩)
  | Is => exact nns h
  | IsNot => exact nns h
end
end Mine
end
section
set_option maxRecDepth 100000
namespace Mine
open PySem PySem.W PyProof.Rows PySem.Spec PySem.Calls PySem.SeqAt

theorem subscripted_any (slice : PySem.Expr) (o i : Value) : ∃ ops, subscripted slice false o i = operate ops (getItem o i) := by
  induction slice using PySem.Expr.casesOn with
  | Slice a b c d => induction c using Option.casesOn <;> exact ⟨_, rfl⟩
  | _ => exact ⟨_, rfl⟩

section
variable {C : Cx} {m : Loc} {g : Heap} {ρ : List (Addr × Addr)} {σ : List Cell} {s : Shared} {E : Value → Shared → Prop} {A : Around}

/- the list or tuple behind a value -/
theorem view_lst (h : At C m g ρ σ s) {p : PV} {v : Value} (r : RepC g ρ p v) {vs : List PV} (e : view σ p = .lst vs) : ∃ a ws, v = .ref a ∧ s.heap.IsList a ws.toArray ∧ Reps g vs ws ∧ ws.length ≤ sizeLine := by
  obtain ⟨mv, I, l⟩ := h
  induction p using PV.casesOn with
  | cell k =>
    obtain ⟨q, hq, rfl⟩ := r
    obtain ⟨c, hc⟩ : ∃ c, σ[k]? = some c := ⟨_, List.getElem?_eq_getElem (by rw [← I.cells.len]; exact (List.getElem?_eq_some_iff.mp hq).1)⟩
    have ca := I.cells.at_ k q _ hq hc
    have e : (match σ[k]? with
      | some (.list vs) => PV.lst vs
      | _ => .cell k) = .lst vs := e
    rw [hc] at e
    induction c using Cell.casesOn with
    | list us =>
      (injection e with e; subst e)
      refine nn fun nG => ?_
      obtain ⟨e', ws, hl, hr, hz⟩ := ca
      refine nG ?_
      exact ⟨q.1, ws, rfl, by rw [e']; exact hl.isList, hr, hz⟩
    | inst c ns vs => exact PV.noConfusion e
    | exc => exact PV.noConfusion e
  | lst us =>
    (injection e with e; subst e)
    refine nn fun nG => ?_
    obtain ⟨a, ws, rfl, ⟨o, ho, hr⟩, hr2, hz⟩ := (show Rep g (.lst us) v from r)
    refine nG ?_
    exact ⟨a, ws, rfl, ⟨o, I.keep _ _ ho, hr⟩, hr2, hz⟩
  | _ => exact PV.noConfusion e
theorem view_same (σ : List Cell) {p : PV} (n : ∀ k, p ≠ .cell k) : view σ p = p := by
  induction p using PV.casesOn with
  | cell k => exact absurd rfl (n k)
  | _ => rfl
theorem view_cell (σ : List Cell) (k : Nat) : view σ (.cell k) = .cell k ∨ ∃ vs, view σ (.cell k) = .lst vs := by
  show (match σ[k]? with
      | some (.list vs) => PV.lst vs
      | _ => .cell k) = .cell k ∨ ∃ vs, (match σ[k]? with
      | some (.list vs) => PV.lst vs
      | _ => .cell k) = .lst vs
  generalize σ[k]? = c
  rcases c with _ | ⟨vs⟩ | _ | _
  · exact .inl rfl
  · exact .inr ⟨vs, rfl⟩
  · exact .inl rfl
  · exact .inl rfl
theorem view_plain (h : At C m g ρ σ s) {p : PV} {v : Value} (r : RepC g ρ p v) {q : PV} (e : view σ p = q) (n1 : ∀ k, q ≠ .cell k) (n2 : ∀ k, q ≠ .lst k) : Rep g q v := by
  subst e
  induction p using PV.casesOn with
  | cell k => exact (view_cell σ k).elim (fun e => absurd e (n1 _)) fun ⟨_, e⟩ => absurd e (n2 _)
  | _ => exact r
theorem view_tup (h : At C m g ρ σ s) {p : PV} {v : Value} (r : RepC g ρ p v) {vs : List PV} (e : view σ p = .tup vs) : ∃ a ws, v = .ref a ∧ IsTup s.heap a ws.toArray ∧ Reps g vs ws ∧ ws.length ≤ sizeLine := by
  refine nn fun nG => ?_
  obtain ⟨a, ws, rfl, ⟨o, ho, hr⟩, hr2, hz⟩ := (show Rep g (.tup vs) v from view_plain h r e (fun ζ q => PV.noConfusion q) fun ζ q => PV.noConfusion q)
  refine nG ?_
  exact ⟨a, ws, rfl, ⟨o, h.keep _ _ ho, hr⟩, hr2, hz⟩

theorem lIdx_some {α : Type} {vs : List α} {j : Int} {x : α} (h : lIdx vs j = some x) : 0 ≤ j ∧ j.toNat < vs.length ∧ vs[j.toNat]? = some x := by
  rcases j with n | n
  · have h' : vs[(Int.ofNat n).toNat]? = some x := h
    exact ⟨Int.natCast_nonneg n, (List.getElem?_eq_some_iff.mp h').1, h'⟩
  · exact nns h
theorem seqIndex_nat {j : Int} {n : Nat} (h0 : 0 ≤ j) (h1 : j.toNat < n) : seqIndex? j n = some j.toNat := by
  have h2 : ¬ j < 0 := by omega
  have h3 : j < n := by omega
  simp [seqIndex?, h2, h0, h3]

theorem sub_ok (I : At C m g ρ σ s) {p i : PV} {v u : Value} {k : PV → Out} {o : Out} {value slice : PySem.Expr} {Q : Value → Shared → Prop} (h : sub σ p i k = o) (ho : o ≠ .stuck) (rv : RepC g ρ p v) (ru : RepC g ρ i u)
    (hq : ∀ p' v' tk, k p' = o → Rep g p' v' → Q v' { s with toks := tk }) : wpAny C.W.M A (subscriptTail value slice v u) Q E s := by
  have z := sizeLine_eq
  induction i using PV.casesOn with
  | int j =>
    obtain ⟨t', rfl⟩ := (show ∃ t', u = .int j t' from ru)
    have h : subI (view σ p) j k = o := h
    generalize e : view σ p = vp at h
    induction vp using PV.casesOn with
    | bytes b =>
      obtain ⟨hz, t, rfl⟩ := (show Rep g (.bytes b) v from view_plain I rv e (fun ζ q => PV.noConfusion q) fun ζ q => PV.noConfusion q)
      obtain ⟨c, hc, hk⟩ := opt_some h ho
      obtain ⟨ops, hs⟩ := subscripted_any slice (.bytes b t) (.int j t')
      by_cases hb : 0 ≤ j ∧ j < b.size
      · rw [bIdx, if_pos hb] at hc
        obtain ⟨x, hx, rfl⟩ := Option.map_eq_some_iff.mp hc
        refine tail_any (typeIs_bytes s b t) FB.slot_bytes_getitem.lookup ?_ hs
        exact @getItem_bytes PR C.W.w A E s t t' b.toList j Q (by simp; exact Nat.le_trans (Nat.le_trans hz (Nat.le_of_eq z)) (by decide)) hb.1 (by simpa using hb.2) (by
          have : b.toList.getD j.toNat 0 = x := by
            rw [List.getD_eq_getElem?_getD, Array.getElem?_toList, hx]; rfl
          rw [this]
          exact hq _ _ _ hk ⟨_, rfl⟩)
      · rw [bIdx, if_neg hb] at hc
        exact nns hc
    | tup vs =>
      obtain ⟨a, ws, rfl, ht, hr, hz⟩ := view_tup I rv e
      obtain ⟨c, hc, hk⟩ := opt_some h ho
      obtain ⟨h0, h1, h2⟩ := lIdx_some hc
      obtain ⟨x, hx, rx⟩ := hr.get h2
      have hl := hr.length
      obtain ⟨ops, hs⟩ := subscripted_any slice (.ref a) (.int j t')
      exact tail_any ht.typeIs slot_tuple_getitem.lookup (getItem_tuple ht (by omega) (by omega) (by simpa using seqIndex_nat h0 (by rw [hl]; exact h1)) (by simpa using hx) (hq _ _ s.toks hk rx)) hs
    | lst vs =>
      obtain ⟨a, ws, rfl, ht, hr, hz⟩ := view_lst I rv e
      obtain ⟨c, hc, hk⟩ := opt_some h ho
      obtain ⟨h0, h1, h2⟩ := lIdx_some hc
      obtain ⟨x, hx, rx⟩ := hr.get h2
      have hl := hr.length
      obtain ⟨ops, hs⟩ := subscripted_any slice (.ref a) (.int j t')
      exact tail_any ht.typeIs slot_list_getitem.lookup (wpAny_getItem_list ht h0 (by omega) (by simpa using hx) (hq _ _ s.toks hk rx)) hs
    | str x =>
      obtain ⟨hz, t, rfl⟩ := (show Rep g (.str x) v from view_plain I rv e (fun ζ q => PV.noConfusion q) fun ζ q => PV.noConfusion q)
      obtain ⟨c, hc, hk⟩ := opt_some h ho
      obtain ⟨h0, h1, h2⟩ := lIdx_some hc
      obtain ⟨ops, hs⟩ := subscripted_any slice (.str x t) (.int j t')
      have h1' : j.toNat < x.length := by simpa [Str.length] using h1
      refine tail_any (typeIs_str s x t) slot_str_getitem.lookup (getItem_str (c := c) (by simp only [Bool.or_eq_false_iff, decide_eq_false_iff_not]; omega) ?_ (hq _ _ _ hk ⟨by skip; show 1 ≤ 16777216; decide, _, rfl⟩)) hs
      rw [seqIndex_nat h0 h1']
      simpa using h2
    | _ => exact (ho h.symm).elim
  | _ => exact (ho h.symm).elim

theorem cl_clip (n : Nat) (i : Int) : cl n i = clipAt n i := by
  by_cases h : i < 0
  · rw [cl, clipAt, if_pos h, if_pos h]; omega
  · rw [cl, clipAt, if_neg h, if_neg h]; omega
theorem lSlice_eq {α : Type} (l : List α) (lo hi : Option Int) : lSlice l lo hi = (l.drop (lo.elim 0 (clipAt l.length))).take (hi.elim l.length (clipAt l.length) - lo.elim 0 (clipAt l.length)) := by
  have : cl l.length = clipAt l.length := funext fun i => cl_clip _ i
  unfold lSlice
  rw [this]
theorem part_is {p : PV} {v : Value} {x : Option Int} (h : part p = some x) (r : RepC g ρ p v) : IsPart v x := by
  induction p using PV.casesOn with
  | none => obtain rfl := Option.some.inj h; obtain rfl := (show v = .none from r); exact .none
  | int i => obtain rfl := Option.some.inj h; obtain ⟨t, rfl⟩ := (show ∃ t, v = .int i t from r); exact .int _ _
  | _ => exact nns h

theorem isList_new (h : Heap) (ws : Array Value) : (h.push { cls := .type "list", data := .seq ws }).IsList h.objs.size ws := ⟨_, Heap.get?_push_size _ rfl, rfl, _, rfl⟩
theorem isTup_new (h : Heap) (ws : Array Value) : IsTup (h.push { cls := .type "tuple", data := .seq ws }) h.objs.size ws := ⟨_, Heap.get?_push_size _ rfl, rfl, _, rfl⟩

/- a new list, kept -/
theorem At.newLst (I : At C m g ρ σ s) {ws : List Value} {vs : List PV} {tk : Tok} (hr : Reps g vs ws) (hz : ws.length ≤ sizeLine) :
    ∃ g', At C m g' ρ σ { s with heap := s.heap.push { cls := .type "list", data := .seq ws.toArray }, toks := tk } ∧ g.StaysIn g' ∧ Rep g' (.lst vs) (.ref s.heap.objs.size) := by
  obtain ⟨I', sg⟩ := I.ext (h' := s.heap.push { cls := .type "list", data := .seq ws.toArray }) (tk := tk) [s.heap.objs.size] (stays_push _ _) (by simp)
  refine ⟨_, I', sg, ?_⟩
  refine ⟨_, ws, rfl, ?_, hr.mono sg, hz⟩
  obtain ⟨o, ho, r⟩ := isList_new s.heap ws.toArray
  exact ⟨o, (ext_new (by simp)).trans ho, r⟩
theorem At.newTup (I : At C m g ρ σ s) {ws : List Value} {vs : List PV} {tk : Tok} (hr : Reps g vs ws) (hz : ws.length ≤ sizeLine) :
    ∃ g', At C m g' ρ σ { s with heap := s.heap.push { cls := .type "tuple", data := .seq ws.toArray }, toks := tk } ∧ g.StaysIn g' ∧ Rep g' (.tup vs) (.ref s.heap.objs.size) := by
  obtain ⟨I', sg⟩ := I.ext (h' := s.heap.push { cls := .type "tuple", data := .seq ws.toArray }) (tk := tk) [s.heap.objs.size] (stays_push _ _) (by simp)
  refine ⟨_, I', sg, ?_⟩
  refine ⟨_, ws, rfl, ?_, hr.mono sg, hz⟩
  obtain ⟨o, ho, r⟩ := isTup_new s.heap ws.toArray
  exact ⟨o, (ext_new (by simp)).trans ho, r⟩

theorem slice_ok (I : At C m g ρ σ s) {p lo hi : PV} {v l u : Value} {a : Addr} {k : PV → Out} {o : Out} {value slc : PySem.Expr} {Q : Value → Shared → Prop} (h : slice σ p lo hi k = o) (ho : o ≠ .stuck) (rv : RepC g ρ p v)
    (rl : RepC g ρ lo l) (ru : RepC g ρ hi u) (hs : s.heap.IsSliceOf a l u .none)
    (hq : ∀ p' v' g' s', k p' = o → At C m g' ρ σ s' → g.StaysIn g' → Rep g' p' v' → Q v' s') : wpAny C.W.M A (subscriptTail value slc v (.ref a)) Q E s := by
  have z := sizeLine_eq
  obtain ⟨lo', e1, h⟩ := opt_some h ho
  obtain ⟨hi', e2, h⟩ := opt_some h ho
  have P1 := part_is e1 rl
  have P2 := part_is e2 ru
  generalize e : view σ p = vp at h
  induction vp using PV.casesOn with
  | bytes b =>
    obtain ⟨hz, t, rfl⟩ := (show Rep g (.bytes b) v from view_plain I rv e (fun ζ q => PV.noConfusion q) fun ζ q => PV.noConfusion q)
    obtain ⟨ops, hs'⟩ := subscripted_any slc (.bytes b t) (.ref a)
    have e3 : KBy.picked b lo' hi' = bSlice b lo' hi' := by rw [KBc.picked_eq]; unfold bSlice; rw [lSlice_eq]; simp
    refine tail_any (typeIs_bytes s b t) FB.slot_bytes_getitem.lookup (getItem_meets (typeIs_bytes _ _ _) (by decide) FB.slot_bytes_getitem FB.entry_bytes_getitem (FB.args_bytes_getitem_2 _ _) (KBc.meets_slice2 b t a P1 P2)
      ⟨hs, Nat.le_trans (KBc.size_picked_le b lo' hi') hz, fun t' tk => ?_⟩) hs'
    rw [e3]
    refine hq _ _ g _ h (I.toks tk) (StaysIn.refl g) ⟨?_, _, rfl⟩
    rw [← e3]
    exact Nat.le_trans (KBc.size_picked_le b lo' hi') hz
  | lst vs =>
    obtain ⟨a', ws, rfl, ht, hr, hz⟩ := view_lst I rv e
    obtain ⟨ops, hs'⟩ := subscripted_any slc (.ref a') (.ref a)
    refine tail_any ht.typeIs slot_list_getitem.lookup (wpAny_getItem_list_slice ht hs P1 P2 .none (by intro q; exact nns q) ?_ (by simpa using hz)) hs'
    have e3 : slicePick ws.toArray lo' hi' none = (lSlice ws lo' hi').toArray := by rw [slicePick_plain, lSlice_eq]; simp
    rw [e3]
    have hr' : Reps g (lSlice vs lo' hi') (lSlice ws lo' hi') := by
      rw [lSlice_eq, lSlice_eq, hr.length]
      exact (hr.drop _).take _
    refine nn fun nG => ?_
    obtain ⟨g', I', sg, r'⟩ := I.newLst (tk := s.toks) hr' (by rw [lSlice_eq]; simp only [List.length_take, List.length_drop]; omega)
    refine nG ?_
    exact hq _ _ g' _ h I' sg r'
  | _ => exact (ho h.symm).elim
end
end Mine
end
section
set_option maxRecDepth 100000
namespace Mine
open PySem PySem.W PyProof.Rows PySem.Spec PySem.Calls PySem.SeqAt

theorem base_plain {o : PySem.Expr} {name : Str} {env : Env} {whole : Sem Value} (h : plainB o = o) : attributeBase o name env whole = whole := by
  induction o using PySem.Expr.casesOn with
  | Call f args kws p =>
    induction f using PySem.Expr.casesOn with
    | Name x px =>
      induction args using List.casesOn with
      | nil =>
        induction kws using List.casesOn with
        | nil => exact nomatch h
        | cons _ _ => rfl
      | cons _ _ => rfl
    | _ => rfl
  | _ => rfl

theorem wget_get {g : Heap} {name : Str} : ∀ {ns : List Str} {vs : List PV} {ws : List Value} {p : PV}, fget name ns vs = some p → Reps g vs ws → ∃ v, wget ns ws name = some v ∧ Rep g p v
  | [], _, _, _, h, _ => by exact nns h
  | _ :: _, [], _, _, h, _ => by exact nns h
  | n :: ns, q :: vs, _, p, h, r => by
    simp only [Reps] at r
    refine nn fun nG => ?_
    obtain ⟨v, r', rfl, r1, r2⟩ := r
    refine nG ?_
    unfold fget at h
    induction e : seq n name using Bool.casesOn with
    | true =>
      rw [e] at h; cases h
      exact ⟨v, by unfold wget; rw [if_pos (seq_iff.mp e)], r1⟩
    | false =>
      rw [e] at h
      refine nn fun nG => ?_
      obtain ⟨u, h1, h2⟩ := wget_get h r2
      refine nG ?_
      exact ⟨u, by unfold wget; rw [if_neg (seq_false e)]; exact h1, h2⟩
theorem wget_set {g : Heap} {name : Str} {x : PV} {v : Value} (rx : Rep g x v) : ∀ {ns : List Str} {vs : List PV} {ws : List Value}, Reps g vs ws → ns.length = vs.length → fhas name ns = true →
    ∃ ws', Reps g (fset name x ns vs) ws' ∧ (wget ns ws' = fun y => if y = name then some v else wget ns ws y) ∧ ns.length = (fset name x ns vs).length
  | [], _, _, _, _, h => by exact nft h
  | _ :: _, [], _, _, h, _ => by cases h
  | n :: ns, q :: vs, _, r, hl, h => by
    simp only [Reps] at r
    refine nn fun nG => ?_
    obtain ⟨u, r', rfl, r1, r2⟩ := r
    refine nG ?_
    unfold fhas at h
    unfold fset
    induction e : seq n name using Bool.casesOn with
    | true =>
      refine ⟨v :: r', ?_, ?_, ?_⟩
      · simp only [Reps]; exact ⟨v, r', rfl, rx, r2⟩
      · funext y
        have := seq_iff.mp e
        subst this
        unfold wget
        by_cases hy : n = y
        · rw [if_pos hy, if_pos hy.symm]
        · rw [if_neg hy, if_neg fun q => hy q.symm]
          rw [if_neg hy]
      · simpa using hl
    | false =>
      rw [e] at h
      refine nn fun nG => ?_
      obtain ⟨ws', h1, h2, h3⟩ := wget_set rx r2 (by simpa using hl) h
      refine nG ?_
      refine ⟨u :: ws', ?_, ?_, ?_⟩
      · simp only [Reps]; exact ⟨u, ws', rfl, r1, h1⟩
      · funext y
        have ne := seq_false e
        have := congrFun h2 y
        unfold wget
        by_cases hy : n = y
        · subst hy
          rw [if_pos rfl, if_neg ne, if_pos rfl]
        · rw [if_neg hy, this, if_neg hy]
      · simpa using h3
theorem wget_add {g : Heap} {name : Str} {x : PV} {v : Value} (rx : Rep g x v) : ∀ {ns : List Str} {vs : List PV} {ws : List Value}, Reps g vs ws → ns.length = vs.length → fhas name ns = false →
    (wget (ns ++ [name]) (ws ++ [v]) = fun y => if y = name then some v else wget ns ws y)
  | [], vs, _, r, hl, h => by
    induction vs using List.casesOn with
    | nil =>
      simp only [Reps] at r
      subst r
      funext y
      simp only [List.nil_append, wget]
      by_cases hy : name = y
      · rw [if_pos hy, if_pos hy.symm]
      · rw [if_neg hy, if_neg fun q => hy q.symm]
    | cons _ _ => cases hl
  | _ :: _, [], _, _, h, _ => by cases h
  | n :: ns, q :: vs, _, r, hl, h => by
    simp only [Reps] at r
    refine nn fun nG => ?_
    obtain ⟨u, r', rfl, r1, r2⟩ := r
    refine nG ?_
    unfold fhas at h
    induction e : seq n name using Bool.casesOn with
    | true => rw [e] at h; exact ntf h
    | false =>
      rw [e] at h
      have := wget_add rx r2 (by simpa using hl) h
      funext y
      have := congrFun this y
      have ne := seq_false e
      simp only [List.cons_append, wget]
      by_cases hy : n = y
      · subst hy
        rw [if_pos rfl, if_neg ne, if_pos rfl]
      · rw [if_neg hy, this, if_neg hy]
theorem wget_none {name : Str} : ∀ {ns : List Str} {ws : List Value}, fhas name ns = false → wget ns ws name = none
  | [], _, _ => by unfold wget; rfl
  | _ :: _, [], _ => by unfold wget; rfl
  | n :: ns, w :: ws, h => by
    unfold fhas at h
    induction e : seq n name using Bool.casesOn with
    | true => rw [e] at h; exact ntf h
    | false =>
      rw [e] at h
      unfold wget
      rw [if_neg (seq_false e)]
      exact wget_none h
theorem wget_within : ∀ (ns : List Str) (ws : List Value), Within (wget ns ws) ns
  | [], _, y, h => by unfold wget at h; exact absurd rfl h
  | _ :: _, [], y, h => by unfold wget at h; exact absurd rfl h
  | n :: ns, w :: ws, y, h => by
    unfold wget at h
    by_cases hy : n = y
    · subst hy; exact .head _
    · rw [if_neg hy] at h
      exact .tail _ (wget_within ns ws y h)

set_option tactic.hygienic true in
theorem lookIn_ns {h : Heap} {d : Addr} {m : Str → Option Value} (x : h.Ns d m) : ∃ o, h.get? d = some o ∧ ∀ name, lookIn name o = some (m name) := by
  refine nn fun nG => ?_
  obtain ⟨o, es, ep, ho, hd, hk, hf⟩ := x
  refine nG ?_
  refine ⟨o, ho, fun name => ?_⟩
  unfold lookIn
  rw [hd]
  simp only
  rw [← hf]
  unfold nsFind findBy
  rw [← Array.find?_toList]
  split
  · rename_i e he; rw [he]; rfl
  · rename_i he
    rw [he, if_neg]
    · rfl
    · rw [Bool.not_eq_true, List.any_eq_false]
      intro e hm
      refine nn fun nG => ?_
      obtain ⟨n, t, hkey⟩ := hk e (Array.mem_toList_iff.mp hm)
      refine nG ?_
      simp [DictEntry.refKey, hkey]
theorem inst_at {h : Heap} {x c d : Addr} {m : Str → Option Value} (hx : h.get? x = some (instObj c d)) (hn : h.Ns d m) : ∃ od, W.InstAt h x (instObj c d) c (some od) ∧ ∀ name, lookIn name od = some (m name) := by
  refine nn fun nG => ?_
  obtain ⟨o, ho, hl⟩ := lookIn_ns hn
  refine nG ?_
  exact ⟨o, ⟨hx, rfl, rfl, ho⟩, hl⟩

theorem handed_rep {g : Heap} {p : PV} {v : Value} (h : ∀ u, p ≠ .raw u) (r : Rep g p v) : handedIn v = true := by
  induction p using PV.casesOn with
  | none => cases (show v = .none from r); rfl
  | bool b => cases (show v = .bool b from r); rfl
  | int i => obtain ⟨t, rfl⟩ := (show ∃ t, v = _ from r); rfl
  | str x => obtain ⟨_, t, rfl⟩ := r; rfl
  | bytes b => obtain ⟨_, t, rfl⟩ := r; rfl
  | tup vs => simp only [Rep] at r; obtain ⟨a, ws, rfl, _⟩ := r; rfl
  | lst vs => simp only [Rep] at r; obtain ⟨a, ws, rfl, _⟩ := r; rfl
  | obj c ns vs => simp only [Rep] at r; obtain ⟨a, d, ws, rfl, _⟩ := r; rfl
  | rng n => simp only [Rep] at r; obtain ⟨a, t, u, w, rfl, _⟩ := r; rfl
  | cell k => exact (show False from r).elim
  | raw u => exact absurd rfl (h u)
theorem noRaw_some {p : PV} {k : PV → Out} {o : Out} (h : noRaw p k = o) (ho : o ≠ .stuck) : (∀ u, p ≠ .raw u) ∧ k p = o := by
  induction p using PV.casesOn with
  | raw u => exact absurd h.symm ho
  | _ => exact ⟨fun u q => (by cases q), h⟩
theorem noCell_some {p : PV} {k : Out} {o : Out} (h : noCell p k = o) (ho : o ≠ .stuck) : (∀ u, p ≠ .cell u) ∧ k = o := by
  induction p using PV.casesOn with
  | cell u => exact absurd h.symm ho
  | _ => exact ⟨fun u q => (by cases q), h⟩
theorem low {g : Heap} {ρ : List (Addr × Addr)} {p : PV} {v : Value} (r : RepC g ρ p v) (n : ∀ k, p ≠ .cell k) : Rep g p v := by
  induction p using PV.casesOn with
  | cell k => exact absurd rfl (n k)
  | _ => exact r
theorem lows {g : Heap} {ρ : List (Addr × Addr)} : ∀ {ps : List PV} {vs : List Value}, RepsC g ρ ps vs → noCells ps = true → Reps g ps vs
  | [], _, r, _ => by simp only [RepsC] at r; subst r; simp [Reps]
  | p :: ps, _, r, h => by
    simp only [RepsC] at r
    obtain ⟨v, r', rfl, r1, r2⟩ := r
    have : (∀ k, p ≠ .cell k) ∧ noCells ps = true := by
      induction p using PV.casesOn with
      | cell k => cases h
      | _ => exact ⟨fun k q => (by cases q), h⟩
    simp only [Reps]
    exact ⟨v, r', rfl, low r1 this.1, lows r2 this.2⟩

section
variable {C : Cx} {m : Loc} {g : Heap} {ρ : List (Addr × Addr)} {σ : List Cell} {s : Shared} {E : Value → Shared → Prop} {A : Around}

theorem cell_at (I : At C m g ρ σ s) {j : Nat} {v : Value} {c : Cell} (r : RepC g ρ (.cell j) v) (e : σ[j]? = some c) : ∃ q : Addr × Addr, ρ[j]? = some q ∧ v = .ref q.1 ∧ CellAt g s.heap q c := by
  refine nn fun nG => ?_
  obtain ⟨mv, I, l⟩ := I
  obtain ⟨q, hq, rfl⟩ := r
  refine nG ?_
  exact ⟨q, hq, rfl, I.cells.at_ j q c hq e⟩

set_option tactic.hygienic true in
theorem attr_ok (K : C.Ok) (I : At C m g ρ σ s) {p : PV} {v : Value} {name : Str} {k : PV → Out} {o : Out} {b : Bool} {Q : Value → Shared → Prop} (h : attr C.O σ p name k = o) (ho : o ≠ .stuck) (r : RepC g ρ p v)
    (hq : ∀ p' v' tk, k p' = o → Rep g p' v' → Q v' { s with toks := tk }) : wpAny C.W.M A (getAttr v name b) Q E s := by
  have X := I.kn.kin.keeps I.keep
  unfold attr at h
  split at h
  · rename_i c ns vs
    have r : Rep g (.obj c ns vs) v := r
    simp only [Rep] at r
    refine nn fun nG => ?_
    obtain ⟨x, d, ws, rfl, hx, hn, hr, hl⟩ := r
    obtain ⟨hf, h⟩ := br_stuck h ho
    obtain ⟨p', e, h⟩ := opt_some h ho
    obtain ⟨nr, h⟩ := noRaw_some h ho
    obtain ⟨u, e1, r1⟩ := wget_get e hr
    obtain ⟨od, II, hlk⟩ := inst_at (I.keep _ _ hx) (hn.keeps I.keep)
    obtain ⟨f1, f2, ⟨a, f3, f4⟩, _⟩ := K.orc.fld _ _ hf
    refine nG ?_
    exact get_value X II f1 (findObj_own f2 f3 f4 (by rw [hlk, e1])) (handed_rep nr r1) (hq _ _ _ h r1)
  · rename_i j
    split at h
    · rename_i c ns vs e0
      refine nn fun nG => ?_
      obtain ⟨q, hq', rfl, hx, ws, hn, hr, hl⟩ := cell_at I r e0
      obtain ⟨hf, h⟩ := br_stuck h ho
      obtain ⟨p', e, h⟩ := opt_some h ho
      obtain ⟨nr, h⟩ := noRaw_some h ho
      obtain ⟨u, e1, r1⟩ := wget_get e hr
      obtain ⟨od, II, hlk⟩ := inst_at (I.keep _ _ hx) hn.ns
      obtain ⟨f1, f2, ⟨a, f3, f4⟩, _⟩ := K.orc.fld _ _ hf
      refine nG ?_
      exact get_value X II f1 (findObj_own f2 f3 f4 (by rw [hlk, e1])) (handed_rep nr r1) (hq _ _ _ h r1)
    · exact absurd h.symm ho
  · exact absurd h.symm ho

theorem osa_own {prog : Program} {w : World} {K : Frag} {x c d : Addr} {ns : List Str} {ws : List Value} {name : Str} {u : Value} {tk : Tok} {R : Result → Shared → Prop} (X : K.In s.heap) (hx : s.heap.get? x = some (instObj c d)) (hn : s.heap.Ns1 d (wget ns ws))
    (hp : plainOver K c = true) (ht : takerIn K c name = some none) (hh : hasDictIn K c = true) (hz : ns.length < 100)
    (h : ∀ h' tk, h'.Ns1 d (fun y => if y = name then some u else wget ns ws y) → Heap.SameBut d s.heap h' → R (.ok (.ret .none)) { s with heap := h', toks := tk }) :
    codeAny (model prog w) A (.call (.builtin "object.__setattr__") ⟨[.ref x, .str name tk, u], []⟩) R s := by
  refine nn fun nG => ?_
  obtain ⟨od, II, hlk⟩ := inst_at hx hn.ns
  refine nG ?_
  refine osa_open X II hp ht fun b => ?_
  refine nn fun nG => ?_
  obtain ⟨cd, hc, hd'⟩ := any_some hh
  refine nG ?_
  refine wpAny_bind (wpAny_pure (wpAny_bind (wpAny_bind (wpAny_loadPart hx (wpAny_bind ((looks_clsIn X hc).here ?_))))))
  rw [hd']
  refine wpAny_pure (a := some d) (wpAny_bind (wpAny_pure (wpAny_bind ?_)))
  refine wpAny_nsSet1 hn fun h' hn' hs' => ?_
  refine nn fun nG => ?_
  obtain ⟨oD, esD, epD, hoD, hdD, hcD⟩ := hn'.count (Within.cons name u (wget_within ns ws))
  refine nG ?_
  refine wpAny_bind (wpAny_lookBehind hoD (by rw [hdD]; exact pastItsLine_dict (Nat.le_trans hcD (by skip; exact chk [_] (.h 1 (.a (.v 0) (.n 1)) (.n 100) .z) 1 (.a (.v 0) (.n 1)) (.a (.n 16777216) (.n 1)) rfl hz))) ?_)
  exact wpAny_pure (h _ _ hn' hs')
theorem store_own {prog : Program} {w : World} {K : Frag} {x c d : Addr} {ns : List Str} {ws : List Value} {name : Str} {u : Value} {Q : Unit → Shared → Prop} (X : K.In s.heap) (hx : s.heap.get? x = some (instObj c d)) (hn : s.heap.Ns1 d (wget ns ws))
    (hs : findIn K (.ref c) (PySem.Str.ofString "__setattr__") = some (some (.builtin "object.__setattr__"))) (hp : plainOver K c = true) (ht : takerIn K c name = some none) (hh : hasDictIn K c = true) (hz : ns.length < 100)
    (h : ∀ h' tk, h'.Ns1 d (fun y => if y = name then some u else wget ns ws y) → Heap.SameBut d s.heap h' → Q () { s with heap := h', toks := tk }) :
    wpAny (model prog w) A (setAttr (.ref x) name u) Q E s := by
  refine nn fun nG => ?_
  obtain ⟨od, II, hlk⟩ := inst_at hx hn.ns
  refine nG ?_
  exact set_plain X II hs (osa_own (s := { s with toks := s.toks + 1 }) X hx hn hp ht hh hz fun h' tk a b => h h' tk a b)

set_option tactic.hygienic true in
theorem set_ok (K : C.Ok) (I : At C m g ρ σ s) {p x : PV} {v u : Value} {name : Str} {k : List Cell → Out} {o : Out} {Q : Unit → Shared → Prop} (h : setAttrC C.O σ p name x k = o) (ho : o ≠ .stuck) (r : RepC g ρ p v) (rx : RepC g ρ x u)
    (hq : ∀ σ' s', k σ' = o → At C m g ρ σ' s' → Q () s') : wpAny C.W.M A (setAttr v name u) Q E s := by
  have X := I.kn.kin.keeps I.keep
  unfold setAttrC at h
  split at h
  · rename_i j
    split at h
    · rename_i c ns vs e0
      refine nn fun nG => ?_
      obtain ⟨q, hq', rfl, hx, ws, hn, hr, hl⟩ := cell_at I r e0
      obtain ⟨hf, h⟩ := br_stuck h ho
      obtain ⟨hz, h⟩ := br_stuck h ho
      obtain ⟨nc, h⟩ := noCell_some h ho
      have rx := low rx nc
      obtain ⟨f1, f2, f3, f4, f5, f6⟩ := K.orc.fld _ _ hf
      refine nG ?_
      refine store_own X (I.keep _ _ hx) hn f4 f5 f6 f2 (by simpa [Nat.blt_eq] using hz) fun h' tk hn' hs' => ?_
      refine nn fun nG => ?_
      obtain ⟨mv, II, l⟩ := I
      refine nG ?_
      split at h
      · rename_i hh
        obtain ⟨ws', w1, w2, w3⟩ := wget_set rx hr hl hh
        exact hq _ { s with heap := h', toks := tk } h ⟨mv, II.core hq' hs' ⟨hx, ws', by rw [w2]; exact hn', w1, w3⟩ (by intro q; cases q), l⟩
      · rename_i hh
        have w2 := wget_add rx hr hl hh
        exact hq _ { s with heap := h', toks := tk } h ⟨mv, II.core hq' hs' ⟨hx, ws ++ [u], by rw [w2]; exact hn', hr.append (by simp only [Reps]; exact ⟨u, [], rfl, rx, rfl⟩), by simp [hl]⟩ (by intro q; cases q), l⟩
    · exact absurd h.symm ho
  · exact absurd h.symm ho

/- the arguments of a call -/
noncomputable def Keeps (W : Wd) (f : Value) : Prop := ∀ h, W.K.In h → ∃ k, (k = Keeper.frame ∨ k = Keeper.machine ∨ k = Keeper.boundFrame) ∧ Looks W.M h (keeperOf f) k
theorem keeps_machine {W : Wd} {f : Value} (hf : ∀ a, f ≠ .ref a) : Keeps W f := fun h X => by
  refine ⟨.machine, .inr (.inl rfl), ?_⟩
  have : keeperOf f = pure .machine := by
    unfold keeperOf
    induction f using PySem.Value.casesOn with
    | ref a => exact absurd rfl (hf a)
    | _ => rfl
  exact Looks.of_pure this
theorem call_args {pos : Pos} {f : Value} {first : List Value} {args : List PySem.Expr} {env : Env} {Q : Value → Shared → Prop} (hs : noStars args = true)
    (h : wpAny C.W.M A (spliced (backTo pos (starEach args env))) (fun vs s₁ => (C.W.K.In s₁.heap ∧ Keeps C.W f) ∧ wpAny C.W.M A (call f (first ++ vs)) Q E s₁) E s) :
    wpAny C.W.M A (callWith pos f first (backTo pos (starEach args env)) []) Q E s := by
  have star : ∀ {args : List PySem.Expr}, noStars args = true → (backTo pos (starEach args env)).any (·.1) = false ∧ (∀ e r, args = e :: r → starEach (e :: r) env = (false, eval e env) :: starEach r env) := by
    intro args hs
    induction args with
    | nil => exact ⟨rfl, fun e r q => by cases q⟩
    | cons e r ih =>
      have h2 : starEach (e :: r) env = (false, eval e env) :: starEach r env ∧ noStars r = true := by
        induction e using PySem.Expr.casesOn with
        | Starred x p => exact nft hs
        | _ => exact ⟨rfl, hs⟩
      refine ⟨?_, fun e' r' q => by cases q; exact h2.1⟩
      rw [h2.1]
      have := (ih h2.2).1
      show (false || (backTo pos (starEach r env)).any (·.1)) = false
      rw [this]; rfl
  obtain ⟨h1, h2⟩ := star hs
  refine callWith_of (P := fun h => C.W.K.In h ∧ Keeps C.W f) (by rw [h1]; rfl) (fun h ⟨X, k⟩ => k h X) ?_
  induction args using List.casesOn with
  | nil =>
    intro Γ p hΓ
    have h0 := h Γ p hΓ
    rw [show backTo pos (starEach [] env) = [] from rfl, show spliced [] = pure [] from rfl, Sem.wp_pure'] at h0
    refine evalArgs_nil3 (M := C.W.M) (A := A) (E := E) ?_ Γ p hΓ
    exact h0
  | cons e r =>
    rw [h2 e r rfl] at h ⊢
    exact evalArgs_plain h
end
end Mine
end
section
set_option maxRecDepth 100000
namespace Mine
open PySem PySem.W PyProof.Rows PySem.Spec PySem.Calls PySem.SeqAt

section
variable {C : Cx} {m : Loc} {g : Heap} {ρ : List (Addr × Addr)} {σ : List Cell} {s : Shared} {E : Value → Shared → Prop} {A : Around}

theorem two63 : (16777216 : Int) < 2 ^ 63 := by decide
theorem args1 {p : PV} {vs : List Value} (r : RepsC g ρ [p] vs) : ∃ v, vs = [v] ∧ RepC g ρ p v := by
  simp only [RepsC] at r
  obtain ⟨v, r', rfl, r1, rfl⟩ := r
  exact ⟨v, rfl, r1⟩
theorem args0 {vs : List Value} (r : RepsC g ρ [] vs) : vs = [] := r
theorem one1_some {α : Type} {l : List α} {c : α} (h : one1 l = some c) : l = [c] := by
  induction l using List.casesOn with
  | nil => exact nns h
  | cons x r =>
    induction r using List.casesOn with
    | nil => cases h; rfl
    | cons y r => exact nns h
theorem str_one {x : Str} {c : Nat} (h : one1 x.cps.toList = some c) : x = ⟨#[c]⟩ := by
  have := one1_some h
  obtain ⟨⟨l⟩⟩ := x
  change l = [c] at this
  rw [this]

theorem asI_some {v : PV} {k : Int → Out} {o : Out} (h : asI v k = o) (ho : o ≠ .stuck) : ∃ i, v = .int i ∧ k i = o := by
  induction v using PV.casesOn with
  | int i => exact ⟨i, rfl, h⟩
  | _ => exact (ho h.symm).elim
theorem asS_some {v : PV} {k : Str → Out} {o : Out} (h : asS v k = o) (ho : o ≠ .stuck) : ∃ i, v = .str i ∧ k i = o := by
  induction v using PV.casesOn with
  | str i => exact ⟨i, rfl, h⟩
  | _ => exact (ho h.symm).elim
theorem asL_some {v : PV} {k : List PV → Out} {o : Out} (h : asL v k = o) (ho : o ≠ .stuck) : ∃ i, v = .lst i ∧ k i = o := by
  induction v using PV.casesOn with
  | lst i => exact ⟨i, rfl, h⟩
  | _ => exact (ho h.symm).elim
theorem arg1_some {l : List PV} {k : PV → Out} {o : Out} (h : arg1 l k = o) (ho : o ≠ .stuck) : ∃ v, l = [v] ∧ k v = o := by
  rcases l with _ | ⟨v, _ | ⟨_, _⟩⟩
  · exact (ho h.symm).elim
  · exact ⟨v, rfl, h⟩
  · exact (ho h.symm).elim
theorem sel_or {id w : String} {t e o : Out} (h : sel id w t e = o) : (id = w ∧ t = o) ∨ e = o := by
  by_cases q : id = w
  · rw [sel, decide_eq_true q] at h; exact .inl ⟨q, h⟩
  · rw [sel, decide_eq_false q] at h; exact .inr h
theorem callB_ok (I : At C m g ρ σ s) {id : String} {ps : List PV} {vs : List Value} {k : PV → Out} {o : Out} {Q : Value → Shared → Prop} (h : callB σ id ps k = o) (ho : o ≠ .stuck) (ra : RepsC g ρ ps vs)
    (hq : ∀ p' v' tk, k p' = o → Rep g p' v' → Q v' { s with toks := tk }) : wpAny C.W.M A (call (.builtin id) vs) Q E s := by
  have z := sizeLine_eq
  have z2 := two63
  obtain ⟨p, rfl, h⟩ := arg1_some h ho
  obtain ⟨u, rfl, r⟩ := args1 ra
  rcases sel_or h with ⟨rfl, hw⟩ | h
  · have h := hw
    generalize e : view σ p = vp at h
    induction vp using PV.casesOn with
    | bytes b =>
      obtain ⟨hz, t, rfl⟩ := (show Rep g (.bytes b) u from view_plain I r e (fun ζ q => PV.noConfusion q) fun ζ q => PV.noConfusion q)
      exact PySem.W.len_bytes (by exact Nat.le_trans (Nat.le_trans hz (Nat.le_of_eq z)) (by decide)) (hq _ _ _ h ⟨_, rfl⟩)
    | str b =>
      obtain ⟨hz, t, rfl⟩ := (show Rep g (.str b) u from view_plain I r e (fun ζ q => PV.noConfusion q) fun ζ q => PV.noConfusion q)
      exact len_str (by omega) (hq _ _ _ h ⟨_, rfl⟩)
    | lst b =>
      obtain ⟨a, ws, rfl, hl, hr, hz⟩ := view_lst I r e
      refine call_len_list hl (by simp; omega) ?_
      simp only [List.size_toArray, hr.length]
      exact hq _ _ _ h ⟨_, rfl⟩
    | tup b =>
      obtain ⟨a, ws, rfl, hl, hr, hz⟩ := view_tup I r e
      refine len_tuple hl (by simp; omega) ?_
      simp only [List.size_toArray, hr.length]
      exact hq _ _ _ h ⟨_, rfl⟩
    | _ => exact (ho h.symm).elim
  rcases sel_or h with ⟨rfl, hw⟩ | h
  · have h := hw
    obtain ⟨i, rfl, h⟩ := asI_some h ho
    obtain ⟨t, rfl⟩ := (show ∃ t, u = .int i t from r)
    obtain ⟨h1, h2⟩ := br_stuck h ho
    simp only [okCode, Bool.and_eq_true, decide_eq_true_eq] at h1
    exact P.chr_of_int (by simp only [Bool.or_eq_false_iff, decide_eq_false_iff_not]; omega) (hq _ _ _ h2 ⟨by skip; show 1 ≤ 16777216; decide, _, rfl⟩)
  rcases sel_or h with ⟨rfl, hw⟩ | h
  · have h := hw
    refine nn fun nG => ?_
    obtain ⟨x, rfl, h⟩ := asS_some h ho
    obtain ⟨_, t, rfl⟩ := (show Rep g (.str x) u from r)
    obtain ⟨c, e, h2⟩ := opt_some h ho
    refine nG ?_
    rw [str_one e]
    exact P.ord_of_char (hq _ _ _ h2 ⟨_, rfl⟩)
  rcases sel_or h with ⟨rfl, hw⟩ | h
  · have h := hw
    obtain ⟨i, rfl, h⟩ := asI_some h ho
    obtain ⟨t, rfl⟩ := (show ∃ t, u = .int i t from r)
    exact call_abs_int fun u tk => hq _ _ _ h ⟨_, rfl⟩
  · exact (ho h.symm).elim

theorem intsAre_of : ∀ {vs : List PV} {l : List Int} {ws : List Value}, intsOf vs = some l → Reps g vs ws → IntsAre ws l
  | [], _, _, e, r => by
    simp only [Reps] at r
    subst r
    cases e
    exact .nil
  | .int j :: vs, _, _, e, r => by
    simp only [Reps] at r
    obtain ⟨v, r', rfl, ⟨t, rfl⟩, r2⟩ := r
    have e : (match intsOf vs with
      | some l => some (j :: l)
      | .none => .none) = some _ := e
    generalize hl : intsOf vs = c at e
    induction c using Option.casesOn with
    | none => exact nns e
    | some l =>
      obtain rfl := Option.some.inj e
      exact .cons _ _ (intsAre_of hl r2)

theorem At.newRng (I : At C m g ρ σ s) {n : Nat} {t u w : Tok} {tk : Tok} (hz : n ≤ sizeLine) :
    ∃ g', At C m g' ρ σ { s with heap := s.heap.push { cls := .type "range", data := .fields #[.int 0 t, .int n u, .int 1 w] }, toks := tk } ∧ g.StaysIn g' ∧ Rep g' (.rng n) (.ref s.heap.objs.size) := by
  refine nn fun nG => ?_
  obtain ⟨I', sg⟩ := I.ext (h' := s.heap.push { cls := .type "range", data := .fields #[.int 0 t, .int n u, .int 1 w] }) (tk := tk) [s.heap.objs.size] (stays_push _ _) (by simp)
  refine nG ?_
  refine ⟨_, I', sg, ?_⟩
  simp only [Rep]
  exact ⟨_, t, u, w, rfl, hz, (ext_new (by simp)).trans (IsRange.new ..)⟩

theorem callT_ok (hh : A.handled = none) (I : At C m g ρ σ s) {id : String} {ps : List PV} {vs : List Value} {k : PV → Out} {o : Out} {Q : Value → Shared → Prop} (h : callT σ id ps k = o) (ho : o ≠ .stuck) (ra : RepsC g ρ ps vs)
    (hq : ∀ p' v' g' s', k p' = o → At C m g' ρ σ s' → g.StaysIn g' → Rep g' p' v' → Q v' s') : wpAny C.W.M A (call (.type id) vs) Q E s := by
  have z := sizeLine_eq
  have zl := LIM_line
  obtain ⟨p, rfl, h⟩ := arg1_some h ho
  obtain ⟨u, rfl, r⟩ := args1 ra
  rcases sel_or h with ⟨rfl, hw⟩ | h
  · have h := hw
    refine nn fun nG => ?_
    obtain ⟨b, e, h⟩ := asL_some h ho
    obtain ⟨a, ws, rfl, hl, hr, hz⟩ := view_lst I r e
    obtain ⟨l, e, h⟩ := opt_some h ho
    obtain ⟨h1, h⟩ := br_stuck h ho
    refine nG ?_
    have ia := intsAre_of e hr
    have hb : ∀ n ∈ l, 0 ≤ n ∧ n < 256 := fun n hn => by
      have := List.all_eq_true.mp h1 n hn
      simpa using this
    refine call_bytes_ints hl ia hb hz hh fun h' t tk st => ?_
    refine hq _ _ g { s with heap := h', toks := tk } h (I.grown st) (StaysIn.refl g) ⟨?_, _, rfl⟩
    have := ia.length
    simp only [List.size_toArray, List.length_map]
    exact Nat.le_trans (Nat.le_of_eq (Eq.symm this)) hz
  rcases sel_or h with ⟨rfl, hw⟩ | h
  · have h := hw
    obtain ⟨n, rfl, h⟩ := asI_some h ho
    obtain ⟨t, rfl⟩ := (show ∃ t, u = .int n t from r)
    rcases n with n | n
    · refine nn fun nG => ?_
      obtain ⟨h1, h⟩ := br_stuck h ho
      have h1 := of_decide_eq_true h1
      obtain ⟨g', I', sg, r'⟩ := I.newRng (n := n) (t := s.toks) (u := t) (w := s.toks + 1) (tk := s.toks + 1 + 1) (by exact Nat.le_trans h1 (Nat.le_of_eq zl))
      refine nG ?_
      exact call_range_1 (hq _ _ g' _ h I' sg r')
    · exact (ho h.symm).elim
  rcases sel_or h with ⟨rfl, hw⟩ | h
  · have h := hw
    refine nn fun nG => ?_
    obtain ⟨b, e, h⟩ := asL_some h ho
    obtain ⟨a, ws, rfl, hl, hr, hz⟩ := view_lst I r e
    refine nG ?_
    refine call_tuple_list hl (fun h' st => ?_) (by simpa using hz)
    refine nn fun nG => ?_
    obtain ⟨g', I', sg, r'⟩ := (I.grown (tk := s.toks) st).newTup (tk := s.toks) hr hz
    refine nG ?_
    exact hq _ _ g' _ h I' sg r'
  rcases sel_or h with ⟨rfl, hw⟩ | h
  · have h := hw
    obtain ⟨i, rfl, h⟩ := asI_some h ho
    obtain ⟨t, rfl⟩ := (show ∃ t, u = .int i t from r)
    exact call_int_int (hq _ _ g _ h I (StaysIn.refl g) ⟨_, rfl⟩)
  · exact (ho h.symm).elim

theorem isi_ok (K : C.Ok) (I : At C m g ρ σ s) {c d : Addr} {ns : List Str} {vs : List PV} {v : Value} {b : Bool} {Q : Value → Shared → Prop} (h : C.O.isi c d = some b) (r : Rep g (.obj c ns vs) v)
    (hq : ∀ tk, Q (.bool b) { s with toks := tk }) : wpAny C.W.M A (call (.builtin "isinstance") [v, .ref d]) Q E s := by
  have X := I.kn.kin.keeps I.keep
  simp only [Rep] at r
  refine nn fun nG => ?_
  obtain ⟨x, dx, ws, rfl, hx, hn, hr, hl⟩ := r
  obtain ⟨od, II, hlk⟩ := inst_at (I.keep _ _ hx) (hn.keeps I.keep)
  refine nG ?_
  have F := K.orc.isi _ _ _ h
  induction b using Bool.casesOn with
  | true => exact isi_call X (fun M => II.type) F (by intro q; cases q) (hq s.toks)
  | false =>
    obtain ⟨f1, f2, f3, f4, f5, f6, f7⟩ := F
    exact kin_callC X II f1 f2 f3 f4 f5 f6 f7 (hq _)
end
end Mine
end
section
set_option maxRecDepth 100000
namespace Mine
open PySem PySem.W PyProof.Rows PySem.Spec PySem.Calls PySem.SeqAt

namespace FX
theorem slot_bytes_join : Slot "bytes" "join" "bytes.join" :=
  .of (owner := "bytes") (n := "join") (by rw [typeLookup_type, builtinLookup_eq_fast]; kernel_rfl) (by decide +kernel) (by decide +kernel) (by decide +kernel)
    (by first | exact .inl (by decide +kernel) | exact .inr (by decide +kernel)) (by rw [isSubtype_type]; kernel_rfl)
theorem type_bytes_join : typeOf (.builtin "bytes.join") = pure (.type "method_descriptor") := by show builtinType _ = _; rw [builtinType_eq_fast]; kernel_rfl
theorem entry_bytes_join : entryFor table "bytes.join" = some Builtin.«bytes.join» := entryFor_of_tree (by kernel_rfl)
theorem args_bytes_join_2 (a b : Value) : argsOk "bytes.join" ⟨[a, b], []⟩ := by
  unfold argsOk; rw [signature?_of (id := "bytes.join") (n := ['n', 'i', 'o', 'j']) (o := ['s', 'e', 't', 'y', 'b']) (by kernel_rfl) FB.owner_bytes]; kernel_rfl
theorem slot_bytes_split : Slot "bytes" "split" "bytes.split" :=
  .of (owner := "bytes") (n := "split") (by rw [typeLookup_type, builtinLookup_eq_fast]; kernel_rfl) (by decide +kernel) (by decide +kernel) (by decide +kernel)
    (by first | exact .inl (by decide +kernel) | exact .inr (by decide +kernel)) (by rw [isSubtype_type]; kernel_rfl)
theorem type_bytes_split : typeOf (.builtin "bytes.split") = pure (.type "method_descriptor") := by show builtinType _ = _; rw [builtinType_eq_fast]; kernel_rfl
theorem entry_bytes_split : entryFor table "bytes.split" = some Builtin.«bytes.split» := entryFor_of_tree (by kernel_rfl)
theorem args_bytes_split_2 (a b : Value) : argsOk "bytes.split" ⟨[a, b], []⟩ := by
  unfold argsOk; rw [signature?_of (id := "bytes.split") (n := ['t', 'i', 'l', 'p', 's']) (o := ['s', 'e', 't', 'y', 'b']) (by kernel_rfl) FB.owner_bytes]; kernel_rfl
end FX

theorem join_eq (sep : Str) : ∀ l : List Str, Txt.join sep l = ⟨(sJoin sep.cps.toList l).toArray⟩ := by
  intro l
  show Builtin.Str.glued sep l = _
  rw [StrLaws.glued_eq_join]
  induction l with
  | nil => rfl
  | cons x r ih =>
    induction r using List.casesOn with
    | nil => show x = ⟨x.cps.toList.toArray⟩; simp
    | cons y r =>
      show x ++ sep ++ Str.join sep (y :: r) = _
      rw [ih]
      show (⟨x.cps ++ sep.cps ++ _⟩ : Str) = ⟨(x.cps.toList ++ sep.cps.toList ++ sJoin sep.cps.toList (y :: r)).toArray⟩
      simp

/- splitting -/
section
variable {α : Type} (p : α → Bool)
theorem sp_ne : ∀ l : List α, splitAt1 p l ≠ []
  | [] => by simp [splitAt1]
  | c :: r => by
    unfold splitAt1
    split
    · simp
    · split <;> simp
set_option tactic.hygienic true in
theorem sp_len : ∀ l : List α, (splitAt1 p l).length ≤ l.length + 1
  | [] => by simp [splitAt1]
  | c :: r => by
    have := sp_len r
    unfold splitAt1
    split
    · simp; exact this
    · split
      · simp
      · rename_i w ws e
        rw [e] at this
        simp at this ⊢; exact Nat.le_succ_of_le this
set_option tactic.hygienic true in
theorem sp_mem : ∀ (l w : List α), w ∈ splitAt1 p l → w.length ≤ l.length
  | [], w, h => by simp [splitAt1] at h; subst h; simp
  | c :: r, w, h => by
    unfold splitAt1 at h
    split at h
    · rcases List.mem_cons.mp h with rfl | h
      · simp
      · have := sp_mem r w h; simp; exact Nat.le_succ_of_le this
    · split at h
      · simp at h; subst h; simp
      · rename_i w' ws e
        rcases List.mem_cons.mp h with rfl | h
        · have := sp_mem r w' (by rw [e]; simp); simp; exact this
        · have := sp_mem r w (by rw [e]; simp [h]); simp; exact Nat.le_succ_of_le this
theorem sp_free : ∀ l : List α, (∀ x ∈ l, p x = false) → splitAt1 p l = [l]
  | [], _ => rfl
  | c :: r, h => by
    unfold splitAt1
    rw [h c (.head _), sp_free r fun x hx => h x (.tail _ hx)]
theorem sp_app : ∀ (l r : List α) (c : α), (∀ x ∈ l, p x = false) → p c = true → splitAt1 p (l ++ c :: r) = l :: splitAt1 p r
  | [], r, c, _, hc => by
    show splitAt1 p (c :: r) = _
    conv => lhs; unfold splitAt1
    rw [hc]
  | x :: l, r, c, h, hc => by
    show splitAt1 p (x :: (l ++ c :: r)) = _
    conv => lhs; unfold splitAt1
    rw [h x (.head _), sp_app l r c (fun y hy => h y (.tail _ hy)) hc]
end
theorem sp_sJoin (c : Nat) : ∀ parts : List Str, parts ≠ [] → (∀ q ∈ parts, c ∉ q.cps.toList) → splitAt1 (fun y => y == c) (sJoin [c] parts) = parts.map (·.cps.toList)
  | [], h, _ => absurd rfl h
  | [x], _, h => sp_free _ _ fun y hy => by
    have : y ≠ c := fun q => h x (.head _) (q ▸ hy)
    simpa using this
  | x :: y :: r, _, h => by
    show splitAt1 _ (x.cps.toList ++ [c] ++ sJoin [c] (y :: r)) = _
    rw [List.append_assoc]
    rw [show [c] ++ sJoin [c] (y :: r) = c :: sJoin [c] (y :: r) from rfl, sp_app _ _ _ c (fun z hz => by
      have : z ≠ c := fun q => h x (.head _) (q ▸ hz)
      simpa using this) (by simp), sp_sJoin c (y :: r) (by simp) fun q hq => h q (.tail _ hq)]
    rfl
theorem split_eq (x : Str) (c : Nat) : (Txt.split x ⟨#[c]⟩).map (·.cps.toList) = splitAt1 (fun y => y == c) x.cps.toList := by
  have h1 : Txt.join ⟨#[c]⟩ (Txt.split x ⟨#[c]⟩) = x := by
    show Builtin.Str.glued _ _ = _
    rw [StrLaws.glued_eq_join]
    exact StrLaws.join_split x ⟨#[c]⟩
  rw [join_eq] at h1
  have h2 : sJoin [c] (Txt.split x ⟨#[c]⟩) = x.cps.toList := by
    have := congrArg (fun z : Str => z.cps.toList) h1
    simpa using this
  rw [← h2]
  refine (sp_sJoin c _ (fun q => ?_) (StrLaws.split_free x c)).symm
  have := split_pos x ⟨#[c]⟩
  rw [q] at this
  simp at this
theorem reps_strs {g : Heap} : ∀ (l : List Str) (t : Tok), (∀ x ∈ l, x.length ≤ sizeLine) → Reps g (l.map fun x => .str x) (strsFrom t l)
  | [], t, _ => by simp [Reps, strsFrom]
  | x :: r, t, h => by
    simp only [List.map_cons, Reps]
    exact ⟨_, _, rfl, ⟨h x (.head _), _, rfl⟩, reps_strs r _ fun y hy => h y (.tail _ hy)⟩

section
variable {prog : Program} {w : World} {A : Around} {E : Value → Shared → Prop} {s : Shared}
theorem str_split_ok {x : Str} {c : Nat} {t u : Tok} {Q : Value → Shared → Prop} (hz : x.length < sizeLine)
    (hq : ∀ h' tk ws, s.heap.StaysIn h' → (∀ g, Reps g ((splitAt1 (fun y => y == c) x.cps.toList).map fun w => .str ⟨w.toArray⟩) ws) → ws.length ≤ sizeLine → Q (.ref h'.objs.size) { s with heap := h'.push { cls := .type "list", data := .seq ws.toArray }, toks := tk }) :
    wpAny (model prog w) A (call (.builtin "str.split") [.str x t, .str ⟨#[c]⟩ u]) Q E s := by
  have eq := split_eq x c
  have hz' : x.length = x.cps.size := rfl
  have hy : ((⟨#[c]⟩ : Str).length == 0) = false := rfl
  have szl : (Txt.split x ⟨#[c]⟩).length ≤ sizeLine := by
    have := congrArg List.length eq
    rw [List.length_map] at this
    rw [this]
    have := sp_len (fun y => y == c) x.cps.toList
    have e2 : x.cps.toList.length = x.cps.size := Array.length_toList
    exact chk [_,_,_,_,_] (.h 1 (.a (.v 2) (.n 1)) (.v 1) (.h 1 (.v 3) (.v 2) (.h 1 (.v 0) (.a (.v 4) (.n 1)) (.h 1 (.v 4) (.v 3) .z)))) 1 (.v 0) (.v 1) rfl hz (Nat.le_of_eq (Eq.symm hz')) this (Nat.le_of_eq e2)
  have part : ∀ q ∈ Txt.split x ⟨#[c]⟩, q.length ≤ sizeLine := fun q hq => by
    have : q.cps.toList ∈ splitAt1 (fun y => y == c) x.cps.toList := by rw [← eq]; exact List.mem_map_of_mem hq
    have := sp_mem _ _ _ this
    have e2 : x.cps.toList.length = x.cps.size := Array.length_toList
    have e3 : q.cps.toList.length = q.cps.size := Array.length_toList
    show q.cps.size ≤ _
    exact Nat.le_of_lt (Nat.lt_of_le_of_lt (Nat.le_trans (Nat.le_trans (Nat.le_trans (Nat.le_of_eq (Eq.symm e3)) this) (Nat.le_of_eq e2)) (Nat.le_of_eq (Eq.symm hz'))) hz)
  have fin : ∀ (tk t' : Nat) (ws : List Value), ws.length = (Txt.split x ⟨#[c]⟩).length → (∀ g, Reps g ((Txt.split x ⟨#[c]⟩).map fun z => .str z) ws) → Q (.ref s.heap.objs.size) { s with heap := s.heap.push { cls := .type "list", data := .seq ws.toArray }, toks := tk } := fun tk t' ws hl hr => by
    refine hq s.heap tk ws (StaysIn.refl _) (fun g => ?_) (by exact Nat.le_trans (Nat.le_of_eq hl) szl)
    rw [← eq, List.map_map]
    have : ((fun w : List Nat => PV.str ⟨w.toArray⟩) ∘ fun z : Str => z.cps.toList) = fun z => PV.str z := by
      funext z; show PV.str ⟨z.cps.toList.toArray⟩ = _; simp
    rw [this]
    exact hr g
  refine wpAny_call_entry F.slot_str_split (typeIs_str _ _ _) F.entry_str_split ?_ (F.args_str_split_2 _ _)
  obtain ⟨raising, htree⟩ := split_sep_tree x ⟨#[c]⟩ t u
  cases h1 : (decide (x.length < (⟨#[c]⟩ : Str).length) || decide (Builtin.Str.strKind x < Builtin.Str.strKind ⟨#[c]⟩))
  · cases hf : (Builtin.Str.occurrences x ⟨#[c]⟩ 0 x.length (x.length + 1)).isEmpty
    · have e : Txt.split x ⟨#[c]⟩ = Builtin.Str.partsBetween x (Builtin.Str.occurrences x ⟨#[c]⟩ 0 x.length (x.length + 1)) (⟨#[c]⟩ : Str).length := by
        unfold Txt.split
        rw [if_neg (by rw [h1]; decide), if_neg (by rw [hf]; decide)]
      rw [htree, h1, hy, hf]
      show wpAny _ _ (do ret (← newList (← (Builtin.Str.partsBetween x (Builtin.Str.occurrences x ⟨#[c]⟩ 0 x.length (x.length + 1)) (⟨#[c]⟩ : Str).length).mapM mkStr))) _ _ s
      rw [← e]
      refine wpAny_bind (wpAny_mapM_mkStr _ _ _ part (wpAny_bind (wpAny_newList (wpAny_pure ⟨_, rfl, ?_⟩) (by rw [strsFrom_length]; exact szl))))
      exact fin _ 0 _ (strsFrom_length _ _) fun g => reps_strs _ _ part
    · have e : Txt.split x ⟨#[c]⟩ = [x] := by
        unfold Txt.split
        rw [if_neg (by rw [h1]; decide), if_pos hf]
      rw [htree, h1, hy, hf]
      show wpAny _ _ (do rule "str.split.same-object"; ret (← newList [.str x t])) _ _ s
      refine wpAny_bind (wpAny_rule (wpAny_bind (wpAny_newList (wpAny_pure ⟨_, rfl, ?_⟩) (by show 1 ≤ sizeLine; decide))))
      refine fin s.toks 0 [.str x t] (by rw [e]; rfl) fun g => ?_
      rw [e]
      simp only [List.map_cons, List.map_nil, Reps]
      exact ⟨_, _, rfl, ⟨part x (by rw [e]; simp), _, rfl⟩, rfl⟩
  · have e : Txt.split x ⟨#[c]⟩ = [x] := by
      unfold Txt.split
      rw [if_pos h1]
    rw [htree, h1]
    show wpAny _ _ (do rule "str.split.sep-cannot-occur"; ret (← newList [.str x t])) _ _ s
    refine wpAny_bind (wpAny_rule (wpAny_bind (wpAny_newList (wpAny_pure ⟨_, rfl, ?_⟩) (by show 1 ≤ sizeLine; decide))))
    refine fin s.toks 0 [.str x t] (by rw [e]; rfl) fun g => ?_
    rw [e]
    simp only [List.map_cons, List.map_nil, Reps]
    exact ⟨_, _, rfl, ⟨part x (by rw [e]; simp), _, rfl⟩, rfl⟩
end
end Mine
end
section
set_option maxRecDepth 100000
namespace Mine
open PySem PySem.W PyProof.Rows PySem.Spec PySem.Calls PySem.SeqAt

noncomputable def posOf (c : UInt8) : List UInt8 → Nat → List Nat
  | [], _ => []
  | x :: r, k => if x == c then k :: posOf c r (k + 1) else posOf c r (k + 1)

theorem posOf_len (c : UInt8) : ∀ (l : List UInt8) (k : Nat), (posOf c l k).length ≤ l.length
  | [], k => by simp [posOf]
  | x :: r, k => by
    have := posOf_len c r (k + 1)
    unfold posOf
    split
    · simp; exact this
    · simp; exact Nat.le_succ_of_le this
theorem ext_one {b : Array UInt8} {pre r : List UInt8} {x : UInt8} (h : b.toList = pre ++ x :: r) : b.extract pre.length (pre.length + 1) = #[x] := by
  apply Array.toList_inj.mp
  rw [Array.toList_extract, h]
  show List.extract _ _ _ = _
  simp
theorem occ_pos {b : Array UInt8} {c : UInt8} : ∀ (r pre : List UInt8) (acc : List Nat × Nat), b.toList = pre ++ r → acc.2 ≤ pre.length →
    ((List.range' pre.length r.length).foldl (fun (acc : List Nat × Nat) i => if i ≥ acc.2 && b.extract i (i + 1) == #[c] then (i :: acc.1, i + 1) else acc) acc).1 = (posOf c r pre.length).reverse ++ acc.1
  | [], pre, acc, h, hm => by simp [posOf]
  | x :: r, pre, acc, h, hm => by
    have h' : b.toList = (pre ++ [x]) ++ r := by rw [h]; simp
    have ex := ext_one h
    show ((List.range' pre.length (r.length + 1)).foldl _ acc).1 = _
    rw [List.range'_succ, List.foldl_cons, ex]
    have hc : (decide (pre.length ≥ acc.2) && (#[x] == #[c])) = (x == c) := by
      simp [hm]
    rw [hc]
    have l1 : (pre ++ [x]).length = pre.length + 1 := by simp
    unfold posOf
    cases q : x == c
    · have := occ_pos (c := c) r (pre ++ [x]) acc h' (by exact chk [_,_,_] (.h 1 (.v 0) (.v 2) (.h 1 (.a (.v 2) (.n 1)) (.v 1) .z)) 1 (.v 0) (.v 1) rfl hm (Nat.le_of_eq (Eq.symm l1)))
      rw [l1] at this
      simpa using this
    · have := occ_pos (c := c) r (pre ++ [x]) (pre.length :: acc.1, pre.length + 1) h' (by simp)
      rw [l1] at this
      simpa using this
theorem occ_eq (b : Array UInt8) (c : UInt8) : Builtin.Bytes.occurrences b #[c] 0 b.size = posOf c b.toList 0 := by
  unfold Builtin.Bytes.occurrences
  have := occ_pos (b := b) (c := c) b.toList [] ([], 0) rfl (Nat.le_refl _)
  simp only [List.length_nil, List.append_nil, Array.length_toList] at this
  have e : (List.range (b.size + 1 - (0 + (#[c] : Array UInt8).size))).map (· + 0) = List.range' 0 b.size := by
    simp [List.range_eq_range']
  simp only []
  rw [e, show (#[c] : Array UInt8).size = 1 from rfl]
  exact (congrArg List.reverse this).trans (List.reverse_reverse _)
theorem btw_eq {b : Array UInt8} {c : UInt8} : ∀ (r pre : List UInt8) (parts : Array (Array UInt8)) (last : Nat), b.toList = pre ++ r → last ≤ pre.length →
    (((posOf c r pre.length).foldl (fun (a : Array (Array UInt8) × Nat) p => (a.1.push (b.extract a.2 p), p + 1)) (parts, last)).1.push
      (b.extract ((posOf c r pre.length).foldl (fun (a : Array (Array UInt8) × Nat) p => (a.1.push (b.extract a.2 p), p + 1)) (parts, last)).2 b.size)).toList.map (·.toList) =
    parts.toList.map (·.toList) ++ (match splitAt1 (fun y => y == c) r with
      | w :: ws => ((b.toList.drop last).take (pre.length - last) ++ w) :: ws
      | [] => [])
  | [], pre, parts, last, h, hm => by
    have hs : pre.length = b.size := by have := congrArg List.length h; simpa using this.symm
    simp [posOf, splitAt1, hs]
  | x :: r, pre, parts, last, h, hm => by
    have h' : b.toList = (pre ++ [x]) ++ r := by rw [h]; simp
    have l1 : (pre ++ [x]).length = pre.length + 1 := by simp
    unfold posOf
    cases q : x == c
    · have ih := btw_eq (c := c) r (pre ++ [x]) parts last h' (by exact chk [_,_,_] (.h 1 (.v 0) (.v 2) (.h 1 (.a (.v 2) (.n 1)) (.v 1) .z)) 1 (.v 0) (.v 1) rfl hm (Nat.le_of_eq (Eq.symm l1)))
      rw [l1] at ih
      simp only [Bool.false_eq_true, if_false]
      rw [ih]
      congr 1
      induction hsp : splitAt1 (fun y => y == c) r using List.casesOn with
      | nil => exact absurd hsp (sp_ne _ r)
      | cons w ws =>
        have e : splitAt1 (fun y => y == c) (x :: r) = (x :: w) :: ws := by
          rw [splitAt1]; simp only [q, hsp]
        rw [e]
        show _ :: ws = _ :: ws
        congr 1
        have hd : b.toList.drop last = pre.drop last ++ x :: r := by rw [h, List.drop_append_of_le_length hm]
        have hl : (pre.drop last).length = pre.length - last := by simp
        rw [hd, ← hl]
        have e2 : pre.length + 1 - last = (pre.drop last).length + 1 := by omega
        rw [e2, List.take_append, List.take_append]
        simp
    · have ih := btw_eq (c := c) r (pre ++ [x]) (parts.push (b.extract last pre.length)) (pre.length + 1) h' (by exact Nat.le_of_eq (Eq.symm l1))
      rw [l1] at ih
      simp only [if_true, List.foldl_cons]
      rw [ih]
      have e : splitAt1 (fun y => y == c) (x :: r) = [] :: splitAt1 (fun y => y == c) r := by
        rw [splitAt1]; simp only [q]
      rw [e]
      induction hsp : splitAt1 (fun y => y == c) r using List.casesOn with
      | nil => exact absurd hsp (sp_ne _ r)
      | cons w ws => simp
theorem between_eq (b : Array UInt8) (c : UInt8) : (Builtin.Bytes.between b 1 (posOf c b.toList 0)).map (·.toList) = splitAt1 (fun y => y == c) b.toList := by
  have := btw_eq (b := b) (c := c) b.toList [] #[] 0 rfl (Nat.le_refl _)
  unfold Builtin.Bytes.between
  simp only [List.length_nil] at this
  refine Eq.trans ?_ (this.trans ?_)
  · rfl
  · induction hsp : splitAt1 (fun y => y == c) b.toList using List.casesOn with
    | nil => exact absurd hsp (sp_ne _ _)
    | cons w ws => simp

section
variable {prog : Program} {w : World} {A : Around} {E : Value → Shared → Prop} {s : Shared}
theorem mapM_bytes {M : Model} : ∀ (l : List (Array UInt8)) (s : Shared) (Q : List Value → Shared → Prop), (∀ x ∈ l, x.size ≤ sizeLine) → (∀ ws tk, (∀ g, Reps g (l.map fun x => .bytes x) ws) → ws.length = l.length → Q ws { s with toks := tk }) → wpAny M A (l.mapM Builtin.Bytes.Kind.bytes.new) Q E s
  | [], s, Q, _, h => by rw [List.mapM_nil]; exact wpAny_pure (h [] s.toks (fun g => (by simp [Reps])) rfl)
  | x :: r, s, Q, hx, h => by
    rw [List.mapM_cons]
    refine wpAny_bind (wpAny_mkBytes (wpAny_bind (mapM_bytes r _ _ (fun y hy => hx y (List.mem_cons_of_mem _ hy)) fun ws tk hr hl => wpAny_pure ?_)) (hx x (List.mem_cons_self ..)))
    refine h _ tk (fun g => ?_) (by simp [hl])
    simp only [List.map_cons, Reps]
    exact ⟨_, _, rfl, ⟨hx x (.head _), _, rfl⟩, hr g⟩
theorem bytes_split_ok {b : Array UInt8} {c : UInt8} {t u : Tok} {Q : Value → Shared → Prop} (hz : b.size < sizeLine)
    (hq : ∀ h' tk ws, s.heap.StaysIn h' → (∀ g, Reps g ((splitAt1 (fun y => y == c) b.toList).map fun w => .bytes w.toArray) ws) → ws.length ≤ sizeLine → Q (.ref h'.objs.size) { s with heap := h'.push { cls := .type "list", data := .seq ws.toArray }, toks := tk }) :
    wpAny (model prog w) A (call (.builtin "bytes.split") [.bytes b t, .bytes #[c] u]) Q E s := by
  refine wpAny_call_entry FX.slot_bytes_split (typeIs_bytes _ _ _) FX.entry_bytes_split ?_ (FX.args_bytes_split_2 _ _)
  unfold Builtin.«bytes.split» Builtin.Bytes.splitM
  repeat (first | with_reducible refine wpAny_of_eq KBd.like_eq ?_ | wp_step)
  have hp : (if false = true then Builtin.Bytes.occurrencesFromRight b #[c] (if (-1 : Int) < 0 then b.size + 1 else (-1 : Int).toNat) else List.take (if (-1 : Int) < 0 then b.size + 1 else (-1 : Int).toNat) (Builtin.Bytes.occurrences b #[c] 0 b.size)) = posOf c b.toList 0 := by
    rw [if_neg (by decide), if_pos (by decide), occ_eq]
    exact List.take_of_length_le (by have := posOf_len c b.toList 0; have e2 : b.toList.length = b.size := Array.length_toList; exact Nat.le_succ_of_le (Nat.le_trans this (Nat.le_of_eq e2)))
  rw [hp]
  have eq := between_eq b c
  have szl : (Builtin.Bytes.between b 1 (posOf c b.toList 0)).length ≤ sizeLine := by
    have := congrArg List.length eq
    rw [List.length_map] at this
    rw [this]
    have := sp_len (fun y => y == c) b.toList
    have e2 : b.toList.length = b.size := Array.length_toList
    exact chk [_,_,_,_] (.h 1 (.a (.v 2) (.n 1)) (.v 1) (.h 1 (.v 0) (.a (.v 3) (.n 1)) (.h 1 (.v 3) (.v 2) .z))) 1 (.v 0) (.v 1) rfl hz this (Nat.le_of_eq e2)
  have part : ∀ q ∈ Builtin.Bytes.between b 1 (posOf c b.toList 0), q.size ≤ sizeLine := fun q hq => by
    have : q.toList ∈ splitAt1 (fun y => y == c) b.toList := by rw [← eq]; exact List.mem_map_of_mem hq
    have := sp_mem _ _ _ this
    have e2 : b.toList.length = b.size := Array.length_toList
    have e3 : q.toList.length = q.size := Array.length_toList
    exact Nat.le_of_lt (Nat.lt_of_le_of_lt (Nat.le_trans (Nat.le_trans (Nat.le_of_eq (Eq.symm e3)) this) (Nat.le_of_eq e2)) hz)
  have reps : ((splitAt1 (fun y => y == c) b.toList).map fun w => PV.bytes w.toArray) = (Builtin.Bytes.between b 1 (posOf c b.toList 0)).map fun x => .bytes x := by
    rw [← eq, List.map_map]
    rfl
  by_cases hem : (posOf c b.toList 0).isEmpty = true
  · rw [if_pos hem]
    have hnil : posOf c b.toList 0 = [] := List.isEmpty_iff.mp hem
    refine wpAny_bind (wpAny_rule (wpAny_bind ?_))
    unfold Builtin.Bytes.Kind.same
    refine wpAny_bind (wpAny_typeOf (typeIs_bytes s b t) (wpAny_pure ?_))
    refine wpAny_bind (wpAny_newList (wpAny_pure ⟨_, rfl, ?_⟩) (by show 1 ≤ sizeLine; decide))
    refine hq s.heap s.toks [.bytes b t] (StaysIn.refl _) (fun g => ?_) (by show 1 ≤ sizeLine; decide)
    rw [reps, hnil]
    have : Builtin.Bytes.between b 1 [] = [b] := by
      unfold Builtin.Bytes.between; simp
    rw [this]
    simp only [List.map_cons, List.map_nil, Reps]
    exact ⟨_, _, rfl, ⟨by exact Nat.le_of_lt hz, _, rfl⟩, rfl⟩
  · rw [if_neg hem]
    refine wpAny_bind (mapM_bytes _ _ _ part fun ws tk hr hl => wpAny_bind (wpAny_newList (wpAny_pure ⟨_, rfl, ?_⟩) (by rw [hl]; exact szl)))
    exact hq s.heap tk ws (StaysIn.refl _) (fun g => by rw [reps]; exact hr g) (by rw [hl]; exact szl)
end
end Mine
end
section
set_option maxRecDepth 100000
namespace Mine
open PySem PySem.W PyProof.Rows PySem.Spec PySem.Calls PySem.SeqAt
theorem take_eq {id : String} {b : Array UInt8} {t : Tok} : Builtin.Bytes.takeBuffer? id (.bytes b t) 0 = pure (some (b, none)) := by
  unfold Builtin.Bytes.takeBuffer?
  skip
  simp only [pure_bind]
  have e0 : ((0 : Int) == Builtin.Bytes.fullReadOnly) = false := by decide +kernel
  rw [KBy.own_buffer, e0, KBy.buffer_eq]
  rfl
theorem takeQ_eq {id : String} {b : Array UInt8} {t : Tok} : Builtin.Bytes.takeBufferQuiet? id (.bytes b t) 0 = pure (some (b, none)) := by
  unfold Builtin.Bytes.takeBufferQuiet?
  rw [take_eq]
  rfl

theorem loop_range {M : Model} {A : Around} {E : Value → Shared → Prop} {s : Shared} {β : Type} {n : Nat} {f : Nat → β → Sem (ForInStep β)} {init : β} (st : Nat → β) (h0 : init = st 0)
    (step : ∀ i, i < n → ∀ Q' : ForInStep β → Shared → Prop, Q' (.yield (st (i + 1))) s → wpAny M A (f i (st i)) Q' E s) {Q : β → Shared → Prop} (fin : Q (st n) s) : wpAny M A (forIn [:n] init f) Q E s := by
  rw [Std.Legacy.Range.forIn_eq_forIn_range', h0]
  have hsz : ([:n] : Std.Legacy.Range).size = n := by simp [Std.Legacy.Range.size]
  show wpAny M A (forIn (List.range' 0 ([:n] : Std.Legacy.Range).size 1) (st 0) f) Q E s
  rw [hsz]
  have go : ∀ k i, i + k = n → wpAny M A (forIn (List.range' i k 1) (st i) f) Q E s := by
    intro k
    induction k with
    | zero =>
      intro i e
      have : i = n := by exact Nat.le_antisymm (chk [_,_] (.h 1 (.a (.v 0) (.n 0)) (.v 1) .z) 1 (.v 0) (.v 1) rfl (Nat.le_of_eq e)) (chk [_,_] (.h 1 (.v 1) (.a (.v 0) (.n 0)) .z) 1 (.v 1) (.v 0) rfl (Nat.le_of_eq (Eq.symm e)))
      subst this
      skip
      exact wpAny_pure fin
    | succ k ih =>
      intro i e
      rw [List.range'_succ, List.forIn_cons]
      exact wpAny_bind (step i (by exact chk [_,_,_] (.h 1 (.a (.v 0) (.a (.v 2) (.n 1))) (.v 1) .z) 1 (.a (.v 0) (.n 1)) (.v 1) rfl (Nat.le_of_eq e)) _ (ih (i + 1) (by exact Nat.le_antisymm (chk [_,_,_] (.h 1 (.a (.v 0) (.a (.v 1) (.n 1))) (.v 2) .z) 1 (.a (.a (.v 0) (.n 1)) (.v 1)) (.v 2) rfl (Nat.le_of_eq e)) (chk [_,_,_] (.h 1 (.v 2) (.a (.v 0) (.a (.v 1) (.n 1))) .z) 1 (.v 2) (.a (.a (.v 0) (.n 1)) (.v 1)) rfl (Nat.le_of_eq (Eq.symm e))))))
  exact go n 0 (by exact Nat.le_antisymm (chk [_] .z 1 (.a (.n 0) (.v 0)) (.v 0) rfl) (chk [_] .z 1 (.v 0) (.a (.n 0) (.v 0)) rfl))
theorem joinLetGo_ok {M : Model} {A : Around} {E : Value → Shared → Prop} {s : Shared} {keep : List Value} : ∀ {l : List (Value × Option Value)} {Q : Unit → Shared → Prop}, (∀ x ∈ l, x.2 = none) → Q () s → wpAny M A (Builtin.Bytes.joinLetGo l keep) Q E s
  | [], Q, _, h => wpAny_pure h
  | (x, w) :: r, Q, hn, h => by
    have : w = none := hn (x, w) (.head _)
    subst this
    unfold Builtin.Bytes.joinLetGo
    exact wpAny_bind (wpAny_letGo (joinLetGo_ok (fun y hy => hn y (.tail _ hy)) h))
theorem bJoin_len (sep : List UInt8) : ∀ l : List (Array UInt8), (bJoin sep l).length ≤ (l.map (·.size)).sum + l.length * sep.length
  | [] => by simp [bJoin]
  | [x] => by simp [bJoin]
  | x :: y :: r => by
    have := bJoin_len sep (y :: r)
    simp only [bJoin, List.length_append, List.map_cons, List.sum_cons, List.length_cons, Nat.add_mul, Nat.one_mul, Array.length_toList] at this ⊢
    exact chk [_,_,_,_,_,_] (.h 1 (.v 2) (.a (.a (.v 3) (.v 4)) (.a (.v 5) (.v 1))) .z) 1 (.a (.a (.v 0) (.v 1)) (.v 2)) (.a (.a (.v 0) (.a (.v 3) (.v 4))) (.a (.a (.v 5) (.v 1)) (.v 1))) rfl this

theorem bJoin_flat (sep : List UInt8) : ∀ (r : List (Array UInt8)) (x : Array UInt8), bJoin sep (x :: r) = x.toList ++ r.flatMap fun p => sep ++ p.toList
  | [], x => by simp [bJoin]
  | y :: r, x => by
    show x.toList ++ sep ++ bJoin sep (y :: r) = _
    rw [bJoin_flat sep r y]
    simp
theorem joined_go (b : Array UInt8) : ∀ (r : List (Array UInt8)) (k : Nat) (out : Array UInt8), 0 < k → ((r.zipIdx k).foldl (fun out (x : Array UInt8 × Nat) => (if x.2 > 0 then out ++ b else out) ++ x.1) out).toList = out.toList ++ r.flatMap fun p => b.toList ++ p.toList
  | [], k, out, h => by simp
  | x :: r, k, out, h => by
    rw [List.zipIdx_cons, List.foldl_cons, joined_go b r (k + 1) _ (by exact chk [_] .z 1 (.a (.n 0) (.n 1)) (.a (.v 0) (.n 1)) rfl)]
    simp [h]
theorem joined_eq (b : Array UInt8) (bs : List (Array UInt8)) : Builtin.Bytes.joined b bs = (bJoin b.toList bs).toArray := by
  apply Array.toList_inj.mp
  unfold Builtin.Bytes.joined
  induction bs using List.casesOn with
  | nil => simp [bJoin]
  | cons x r =>
    rw [bJoin_flat]
    have := joined_go b r 1 (#[] ++ x) (by exact chk [] .z 1 (.a (.n 0) (.n 1)) (.n 1) rfl)
    simpa using this
theorem sizes_eq : ∀ (bs : List (Array UInt8)) (k : Nat), bs.toArray.foldl (fun x1 x2 => x1 + x2.size) k = k + (bs.map (·.size)).sum := by
  intro bs k
  rw [List.foldl_toArray]
  induction bs generalizing k with
  | nil => simp
  | cons x r ih => rw [List.foldl_cons, ih]; simp; exact Nat.le_antisymm (chk [_,_,_] .z 1 (.a (.a (.v 0) (.v 1)) (.v 2)) (.a (.v 0) (.a (.v 1) (.v 2))) rfl) (chk [_,_,_] .z 1 (.a (.v 0) (.a (.v 1) (.v 2))) (.a (.a (.v 0) (.v 1)) (.v 2)) rfl)

section
variable {prog : Program} {w : World} {A : Around} {E : Value → Shared → Prop} {s : Shared}
theorem bytes_join_ok {b : Array UInt8} {t : Tok} {a : Addr} {bs : List (Array UInt8)} {ws : List Value} {Q : Value → Shared → Prop} (hl : s.heap.IsList a ws.toArray) (hz : ws.length ≤ sizeLine)
    (hb : ∃ ts : List Tok, ts.length = bs.length ∧ ws = (bs.zip ts).map fun p => .bytes p.1 p.2) (hf : jFit b.size (bs.map (·.size)) = true)
    (hq : ∀ tk t', Q (.bytes (bJoin b.toList bs).toArray t') { s with toks := tk }) : wpAny (model prog w) A (call (.builtin "bytes.join") [.bytes b t, .ref a]) Q E s := by
  refine nn fun nG => ?_
  obtain ⟨o, ho, hc, n, hd⟩ := hl
  refine nG ?_
  refine wpAny_call_entry FX.slot_bytes_join (typeIs_bytes _ _ _) FX.entry_bytes_join ?_ (FX.args_bytes_join_2 _ _)
  have ha : s.TypeIs (.ref a) "list" := ⟨o, ho, hc⟩
  unfold Builtin.«bytes.join» Builtin.Bytes.joinM
  refine wpAny_bind (wpAny_pure (a := (Value.bytes b t, Value.ref a)) ?_)
  refine wpAny_bind ?_
  refine wpAny_bind (wpAny_typeOf ha (wpAny_pure ?_))
  refine wpAny_bind (wpAny_seqItems ho hd ?_)
  dsimp only
  rw [if_pos (by decide)]
  obtain ⟨ts, hlt, hws⟩ := hb
  have item : ∀ {i : Nat}, i < ws.length → ∃ bi ti, ws.toArray.getD i .none = .bytes bi ti ∧ ws[i]? = some (.bytes bi ti) ∧ bs[i]? = some bi := by
    intro i hi
    have hl : ws.length = bs.length := by rw [hws]; simp [hlt]
    have h1 : i < bs.length := by exact Nat.lt_of_lt_of_le hi (Nat.le_of_eq hl)
    have h2 : i < ts.length := by exact Nat.lt_of_lt_of_le h1 (Nat.le_of_eq (Eq.symm hlt))
    have e : ws[i]? = some (.bytes bs[i] ts[i]) := by
      rw [hws]
      rw [List.getElem?_map, List.getElem?_zip_eq_some (z := (bs[i], ts[i])) |>.mpr ⟨List.getElem?_eq_getElem h1, List.getElem?_eq_getElem h2⟩]
      rfl
    refine ⟨bs[i], ts[i], ?_, e, List.getElem?_eq_getElem h1⟩
    simp only [Array.getD_eq_getD_getElem?, List.getElem?_toArray, e, Option.getD_some]
  have noHeap : ∀ i, ((ws.take i).map fun x => ((x, none) : Value × Option Value)).any (fun x => x.1.onHeap) = false := by
    intro i
    rw [List.any_map, List.any_eq_false]
    intro x hx
    have hx := List.mem_of_mem_take hx
    rw [hws] at hx
    obtain ⟨p, _, rfl⟩ := List.mem_map.mp hx
    exact Bool.false_ne_true
  have nxt : ∀ {i : Nat} {bi : Array UInt8} {v : Value}, bs[i]? = some bi → ws[i]? = some v → ((bs.take (i + 1)).toArray, (ws.take (i + 1)).map fun x => ((x, none) : Value × Option Value)) = ((bs.take i).toArray.push bi, (ws.take i).map (fun x => (x, none)) ++ [(v, none)]) := by
    intro i bi v e1 e2
    rw [List.take_add_one, List.take_add_one, e1, e2]
    simp
  have hl : ws.length = bs.length := by rw [hws]; simp [hlt]
  have ebs : (bs.take bs.length).toArray.toList = bs := by simp
  have jl := bJoin_len b.toList bs
  have z := LIM_line
  unfold jFit at hf
  have hf := of_decide_eq_true hf
  rw [List.length_map] at hf
  have fits : (Builtin.Bytes.joined b (bs.take bs.length).toArray.toList).size ≤ sizeLine := by
    show (Builtin.Bytes.joined b (List.take bs.length bs)).size ≤ _
    rw [List.take_length, joined_eq]
    show (bJoin b.toList bs).length ≤ _
    have : b.toList.length = b.size := Array.length_toList
    rw [this] at jl
    exact Nat.le_trans (Nat.le_trans jl hf) (Nat.le_of_eq z)
  have tl : Builtin.Bytes.tooLong ((bs.take bs.length).toArray.foldl (fun x1 x2 => x1 + x2.size) (b.size * ((bs.take bs.length).toArray.size - 1))) = false := by
    rw [sizes_eq]
    unfold Builtin.Bytes.tooLong
    refine decide_eq_false ?_
    have e9 : (bs.take bs.length).toArray.size = bs.length := by simp
    rw [e9, List.take_length]
    have : b.size * (bs.length - 1) ≤ bs.length * b.size := by rw [Nat.mul_comm]; exact Nat.mul_le_mul_right _ (Nat.sub_le _ _)
    omega
  rcases ws with _ | ⟨v1, _ | ⟨v2, r⟩⟩
  · refine wpAny_bind (loop_range (st := fun i => ((bs.take i).toArray, (([] : List Value).take i).map fun x => (x, none))) rfl ?_ ?_)
    · intro i hi
      exact absurd hi (Nat.not_lt_zero _)
    · have en : ([] : List Value).toArray.size = bs.length := by simpa using hl
      rw [en]
      refine wpAny_bind (wpAny_of_eq (rfl : Builtin.Bytes.payload (.bytes b t) = pure b) ?_)
      dsimp only
      rw [tl]
      skip
      refine wpAny_bind (wpAny_mkBytes ?_ fits)
      refine wpAny_bind (wpAny_holding (wpAny_point ?_))
      refine wpAny_bind (joinLetGo_ok (fun x hx => ?_) (wpAny_pure ⟨_, rfl, ?_⟩))
      · obtain ⟨y, _, rfl⟩ := List.mem_map.mp hx
        rfl
      · show Q (.bytes (Builtin.Bytes.joined b (List.take bs.length bs)) _) _
        rw [List.take_length, joined_eq]
        exact hq _ _
  · refine nn fun nG => ?_
    obtain ⟨b0, t0, e1, e2, e3⟩ := item (i := 0) (by simp)
    refine nG ?_
    induction bs using List.casesOn with
    | nil => cases hl
    | cons x r =>
      induction r using List.casesOn with
      | cons _ _ => simp at hl
      | nil =>
        cases e3
        have e2 : v1 = .bytes b0 t0 := by simpa using e2
        subst e2
        refine wpAny_bind (wpAny_typeOf (typeIs_bytes s b0 t0) ?_)
        skip
        refine wpAny_bind (wpAny_rule (wpAny_pure ⟨_, rfl, ?_⟩))
        have := hq s.toks t0
        have e : (bJoin b.toList [b0]).toArray = b0 := by simp [bJoin]
        rw [e] at this
        exact this
  · refine wpAny_bind (loop_range (st := fun i => ((bs.take i).toArray, ((v1 :: v2 :: r).take i).map fun x => (x, none))) rfl ?_ ?_)
    · intro i hi Q' hQ'
      refine nn fun nG => ?_
      obtain ⟨bi, ti, e1, e2, e3⟩ := item (i := i) (by simpa using hi)
      refine nG ?_
      refine wpAny_bind (wpAny_seqItems ho hd ?_)
      dsimp only
      rw [noHeap i]
      skip
      refine wpAny_bind (wpAny_holding ?_)
      rw [e1]
      refine wpAny_of_eq takeQ_eq (wpAny_bind (wpAny_seqItems ho hd ?_))
      dsimp only
      rw [if_neg (by simp)]
      rw [nxt e3 e2] at hQ'
      exact wpAny_pure hQ'
    · have en : (v1 :: v2 :: r).toArray.size = bs.length := by simpa using hl
      rw [en]
      refine wpAny_bind (wpAny_of_eq (rfl : Builtin.Bytes.payload (.bytes b t) = pure b) ?_)
      dsimp only
      rw [tl]
      skip
      refine wpAny_bind (wpAny_mkBytes ?_ fits)
      refine wpAny_bind (wpAny_holding (wpAny_point ?_))
      refine wpAny_bind (joinLetGo_ok (fun x hx => ?_) (wpAny_pure ⟨_, rfl, ?_⟩))
      · obtain ⟨y, _, rfl⟩ := List.mem_map.mp hx
        rfl
      · show Q (.bytes (Builtin.Bytes.joined b (List.take bs.length bs)) _) _
        rw [List.take_length, joined_eq]
        exact hq _ _
end
end Mine
end
section
set_option maxRecDepth 100000
namespace Mine
open PySem PySem.W PyProof.Rows PySem.Spec PySem.Calls PySem.SeqAt

theorem bytesOf_rep {g : Heap} : ∀ {vs : List PV} {l : List (Array UInt8)} {ws : List Value}, bytesOf vs = some l → Reps g vs ws → ∃ ts : List Tok, ts.length = l.length ∧ ws = (l.zip ts).map fun p => .bytes p.1 p.2
  | [], _, _, e, r => by
    dsimp only [Reps] at r
    subst r
    cases e
    exact ⟨[], rfl, rfl⟩
  | .bytes b :: vs, _, _, e, r => by
    dsimp only [Reps] at r
    obtain ⟨v, r', rfl, ⟨_, t, rfl⟩, r2⟩ := r
    have e : (match bytesOf vs with
      | some l => some (b :: l)
      | .none => .none) = some _ := e
    generalize hl : bytesOf vs = c at e
    induction c using Option.casesOn with
    | none => exact nns e
    | some l =>
      obtain rfl := Option.some.inj e
      obtain ⟨ts, h1, h2⟩ := bytesOf_rep hl r2
      exact ⟨t :: ts, by simp [h1], by rw [h2]; rfl⟩
theorem strsAre_rep {g : Heap} : ∀ {vs : List PV} {l : List Str} {ws : List Value}, strsOf vs = some l → Reps g vs ws → StrsAre ws l
  | [], _, _, e, r => by
    dsimp only [Reps] at r
    subst r
    cases e
    exact .nil
  | .str b :: vs, _, _, e, r => by
    dsimp only [Reps] at r
    obtain ⟨v, r', rfl, ⟨_, t, rfl⟩, r2⟩ := r
    have e : (match strsOf vs with
      | some l => some (b :: l)
      | .none => .none) = some _ := e
    generalize hl : strsOf vs = c at e
    induction c using Option.casesOn with
    | none => exact nns e
    | some l =>
      obtain rfl := Option.some.inj e
      exact .cons _ _ (strsAre_rep hl r2)
theorem sJoin_len (sep : List Nat) : ∀ l : List Str, (sJoin sep l).length ≤ (l.map (·.length)).sum + l.length * sep.length
  | [] => by simp [sJoin]
  | [x] => by simp [sJoin, Str.length]
  | x :: y :: r => by
    have := sJoin_len sep (y :: r)
    simp only [sJoin, List.length_append, List.map_cons, List.sum_cons, List.length_cons, Nat.add_mul, Nat.one_mul, Array.length_toList] at this ⊢
    dsimp only [Str.length] at this ⊢
    exact chk [_,_,_,_,_,_] (.h 1 (.v 2) (.a (.a (.v 3) (.v 4)) (.a (.v 5) (.v 1))) .z) 1 (.a (.a (.v 0) (.v 1)) (.v 2)) (.a (.a (.v 0) (.a (.v 3) (.v 4))) (.a (.a (.v 5) (.v 1)) (.v 1))) rfl this
section
variable {C : Cx} {m : Loc} {g : Heap} {ρ : List (Addr × Addr)} {σ : List Cell} {s : Shared} {E : Value → Shared → Prop} {A : Around}

inductive MethV (C : Cx) (g : Heap) (ρ : List (Addr × Addr)) : PV → Value → Str → Value → Prop
  | bj (b t) : MethV C g ρ (.bytes b) (.bytes b t) (PySem.Str.ofString "join") (.builtin "bytes.join")
  | bs (b t) : MethV C g ρ (.bytes b) (.bytes b t) (PySem.Str.ofString "split") (.builtin "bytes.split")
  | sj (b t) : MethV C g ρ (.str b) (.str b t) (PySem.Str.ofString "join") (.builtin "str.join")
  | ss (b t) : MethV C g ρ (.str b) (.str b t) (PySem.Str.ofString "split") (.builtin "str.split")
  | la (j a) : ρ[j]? = some (a, a) → MethV C g ρ (.cell j) (.ref a) (PySem.Str.ofString "append") (.builtin "list.append")
  | ci (j x core c name a) : g.get? x = some (instObj c core) → C.O.meth c name = some a → MethV C g ρ (.cell j) (.ref x) name (.ref a)
  | ob (c ns vs v name a) : C.O.meth c name = some a → MethV C g ρ (.obj c ns vs) v name (.ref a)

theorem gm_bytes {M : Model} {b : Array UInt8} {t : Tok} {name : Str} {id : String} {pl : Sem Bool} {Q : Value × List Value → Shared → Prop} (sl : Slot "bytes" name id) (hty : typeOf (.builtin id) = pure (.type "method_descriptor"))
    (h : Q (.builtin id, [.bytes b t]) s) : wpAny M A (getMethod (.bytes b t) name pl) Q E s := getMethod_builtin (typeIs_bytes _ _ _) FB.plainAttrs_bytes sl hty (fun a e => by cases e) h
theorem gm_str {M : Model} {b : Str} {t : Tok} {name : Str} {id : String} {pl : Sem Bool} {Q : Value × List Value → Shared → Prop} (sl : Slot "str" name id) (hty : typeOf (.builtin id) = pure (.type "method_descriptor"))
    (h : Q (.builtin id, [.str b t]) s) : wpAny M A (getMethod (.str b t) name pl) Q E s := getMethod_builtin (typeIs_str _ _ _) F.plainAttrs_str sl hty (fun a e => by cases e) h
theorem noRefB (id : String) : ∀ a, Value.builtin id ≠ .ref a := fun a q => by cases q
set_option tactic.hygienic true in
theorem getM_ok (K : C.Ok) (I : At C m g ρ σ s) {p : PV} {v : Value} {name : Str} {pl : Sem Bool} {Q : Value × List Value → Shared → Prop} (r : RepC g ρ p v) (h : preM C.O σ p name = true)
    (hq : ∀ f, MethV C g ρ p v name f → Keeps C.W f → Q (f, [v]) s) : wpAny C.W.M A (getMethod v name pl) Q E s := by
  have X := I.kn.kin.keeps I.keep
  unfold preM at h
  split at h
  · obtain ⟨_, t, rfl⟩ := r
    rcases Bool.or_eq_true_iff.mp h with e | e <;> have e := seq_iff.mp e <;> subst e
    · with_reducible exact gm_bytes FX.slot_bytes_join FX.type_bytes_join (hq _ (.bj _ _) (keeps_machine (noRefB _)))
    · with_reducible exact gm_bytes FX.slot_bytes_split FX.type_bytes_split (hq _ (.bs _ _) (keeps_machine (noRefB _)))
  · obtain ⟨_, t, rfl⟩ := r
    rcases Bool.or_eq_true_iff.mp h with e | e <;> have e := seq_iff.mp e <;> subst e
    · with_reducible exact gm_str F.slot_str_join F.type_str_join (hq _ (.sj _ _) (keeps_machine (noRefB _)))
    · with_reducible exact gm_str F.slot_str_split F.type_str_split (hq _ (.ss _ _) (keeps_machine (noRefB _)))
  · rename_i j
    split at h
    · rename_i vs e
      refine nn fun nG => ?_
      obtain ⟨q, hq', rfl, hc, ws, hl, hr, hz⟩ := cell_at I r e
      have e := seq_iff.mp h
      subst e
      have hg : ρ[j]? = some (q.1, q.1) := by rw [hq']; congr 1; exact Prod.ext rfl hc.symm
      obtain ⟨n, sl, ho⟩ := hl
      refine nG ?_
      rw [← hc] at ho
      exact getMethod_list_append ho rfl rfl (hq _ (.la _ _ hg) (keeps_machine (noRefB _)))
    · rename_i c ns vs e
      refine nn fun nG => ?_
      obtain ⟨q, hq', rfl, hx, ws, hn, hr, hl⟩ := cell_at I r e
      rw [Bool.and_eq_true, Bool.not_eq_true'] at h
      obtain ⟨a, ha⟩ := Option.isSome_iff_exists.mp h.1
      obtain ⟨f1, f2, f3, f4, f5, f6, f7⟩ := K.orc.meth _ _ _ ha
      obtain ⟨od, II, hlk⟩ := inst_at (I.keep _ _ hx) hn.ns
      refine nG ?_
      refine method_fn X II f1 f2 f3 f4 ?_ (hq _ (.ci _ _ _ _ _ _ hx ha) (keeps_K f5))
      show (lookIn name od).map _ = _
      rw [hlk, wget_none h.2]; rfl
    · exact nft h
  · rename_i c ns vs
    have r : Rep g (.obj c ns vs) v := r
    rw [Bool.and_eq_true, Bool.not_eq_true'] at h
    obtain ⟨a, ha⟩ := Option.isSome_iff_exists.mp h.1
    obtain ⟨f1, f2, f3, f4, f5, f6, f7⟩ := K.orc.meth _ _ _ ha
    have mk := MethV.ob (C := C) (g := g) (ρ := ρ) c ns vs v name a ha
    dsimp only [Rep] at r
    refine nn fun nG => ?_
    obtain ⟨x, d, ws, rfl, hx, hn, hr, hl⟩ := r
    obtain ⟨od, II, hlk⟩ := inst_at (I.keep _ _ hx) (hn.keeps I.keep)
    refine nG ?_
    refine method_fn X II f1 f2 f3 f4 ?_ (hq _ mk (keeps_K f5))
    show (lookIn name od).map _ = _
    rw [hlk, wget_none h.2]; rfl
  · exact nft h

theorem append_ok {prog : Program} {w : World} {l : Addr} {items : Array Value} {x : Value} {Q : Value → Shared → Prop} (hl : LList s.heap l items)
    (hQ : ∀ h', LList h' l (items.push x) → Heap.SameBut l s.heap h' → Q .none { s with heap := h' }) (hsz : items.size ≤ sizeLine) :
    wpAny (model prog w) A (call (.builtin "list.append") [.ref l, x]) Q E s := by
  refine nn fun nG => ?_
  obtain ⟨n, sl, ho⟩ := hl
  refine nG ?_
  refine wpAny_call_entry slot_list_append ⟨_, ho, rfl⟩ entry_list_append ?_ (args_list_append _ _)
  show wpAny _ _ (updateSeq l (·.push x) >>= fun ζ => ret .none) _ _ s
  refine wpAny_bind ?_
  have e : Obj.mapSeq (·.push x) { cls := .type "list", data := .seq items n, slots := sl } = { cls := .type "list", data := .seq (items.push x) (n + 1), slots := sl } := by simp [Obj.mapSeq]
  refine wpAny_updateSeq ho rfl (wpAny_pure ⟨.none, rfl, hQ _ ⟨n + 1, sl, ?_⟩ (Heap.SameBut.update ..)⟩)
  rw [Heap.get?_update_self _ ho (by skip; rfl), e]

theorem cell_g (I : At C m g ρ σ s) {q : Addr × Addr} (h : q ∈ ρ) : g.get? q.2 = none := by
  obtain ⟨mv, II, l⟩ := I
  exact (II.cg q h).1

set_option tactic.hygienic true in
theorem callM_ok (K : C.Ok) (hh : A.handled = none) (rdy : Ready C.W C.envs A C.rm g s) (I : At C m g ρ σ s) {g₀ : Heap} {ρ₀ : List (Addr × Addr)} (sg : g₀.StaysIn g) (sp : ρ₀ <+: ρ) {p : PV} {v f : Value} {name : Str} {ps : List PV} {vs : List Value} {k : KV} {o : Out} {Q : Value → Shared → Prop}
    (mv : MethV C g₀ ρ₀ p v name f) (r : RepC g ρ p v) (ra : RepsC g ρ ps vs) (h : callM C.O σ p name ps k = o) (ho : o ≠ .stuck)
    (hq : ∀ p' v' σ' s' g' ρ', k p' σ' = o → At C m g' ρ' σ' s' → RepC g' ρ' p' v' → g.StaysIn g' → ρ <+: ρ' → Q v' s')
    (he : Ex C E o) : wpAny C.W.M A (call f (v :: vs)) Q E s := by
  have z := sizeLine_eq
  have zl := LIM_line
  have plain : ∀ p' v' tk, k p' σ = o → Rep g p' v' → Q v' { s with toks := tk } := fun p' v' tk e r' => hq p' v' σ _ g ρ e (I.toks tk) (by induction p' using PV.casesOn with | cell j => exact (show False from r').elim | _ => exact r') (StaysIn.refl g) (List.prefix_refl ρ)
  have jj : seq (PySem.Str.ofString "join") (PySem.Str.ofString "join") = true := seq_iff.mpr rfl
  have ss : seq (PySem.Str.ofString "split") (PySem.Str.ofString "split") = true := seq_iff.mpr rfl
  have aa : seq (PySem.Str.ofString "append") (PySem.Str.ofString "append") = true := seq_iff.mpr rfl
  have js : seq (PySem.Str.ofString "join") (PySem.Str.ofString "split") = false := by decide +kernel
  have sj : seq (PySem.Str.ofString "split") (PySem.Str.ofString "join") = false := by decide +kernel
  unfold callM at h
  cases mv with
  | bj b t =>
    dsimp only [jj, js] at h
    split at h
    · rename_i q
      obtain ⟨u, rfl, r1⟩ := args1 ra
      split at h
      · rename_i us e
        obtain ⟨a, ws, rfl, hl, hr, hz⟩ := view_lst I r1 e
        obtain ⟨bs, e2, h⟩ := opt_some h ho
        obtain ⟨hf, h⟩ := br_stuck h ho
        refine bytes_join_ok hl hz (bytesOf_rep e2 hr) hf fun tk t' => plain _ _ _ h ⟨?_, _, rfl⟩
        have := bJoin_len b.toList bs
        have hf := of_decide_eq_true hf
        simp only [List.size_toArray, Array.length_toList, List.length_map] at this hf ⊢
        exact Nat.le_trans (Nat.le_trans this hf) (Nat.le_of_eq zl)
      · exact absurd h.symm ho
    · exact absurd h.symm ho
  | bs b t =>
    simp only [ss, sj] at h
    split at h
    · rename_i q hh0
      obtain ⟨u, rfl, r1⟩ := args1 ra
      obtain ⟨_, t', rfl⟩ := r1
      obtain ⟨c, e2, h⟩ := opt_some h ho
      obtain ⟨hf, h3⟩ := br_stuck h ho
      have hf := of_decide_eq_true hf
      have e2 := one1_some e2
      have : q = #[c] := by
        obtain ⟨l⟩ := q
        change l = [c] at e2
        rw [e2]
      subst this
      refine bytes_split_ok (by exact Nat.lt_of_lt_of_le hf (Nat.le_of_eq zl)) fun h' tk ws st hr hz => ?_
      obtain ⟨g', I', sg', r'⟩ := (I.grown (tk := s.toks) st).newLst (tk := tk) (hr g) hz
      exact hq _ _ σ _ g' ρ h3 I' r' sg' (List.prefix_refl ρ)
    · exact absurd h.symm ho
  | sj b t =>
    dsimp only [jj, js] at h
    split at h
    · rename_i q
      obtain ⟨u, rfl, r1⟩ := args1 ra
      split at h
      · rename_i us e
        obtain ⟨a, ws, rfl, hl, hr, hz⟩ := view_lst I r1 e
        obtain ⟨bs, e2, h⟩ := opt_some h ho
        obtain ⟨hf, h⟩ := br_stuck h ho
        have hf := of_decide_eq_true hf
        have hj : Txt.join b bs = ⟨(sJoin b.cps.toList bs).toArray⟩ := join_eq b bs
        refine join_list hl (strsAre_rep e2 hr) (by rw [zl, z] at hf; simpa using hf) fun t' tk => ?_
        rw [hj]
        refine plain _ _ _ h ⟨?_, _, rfl⟩
        have := sJoin_len b.cps.toList bs
        simp only [Str.length, List.size_toArray, Array.length_toList, List.length_map] at this hf ⊢
        exact Nat.le_trans (Nat.le_trans this hf) (Nat.le_of_eq zl)
      · exact absurd h.symm ho
    · exact absurd h.symm ho
  | ss b t =>
    simp only [ss, sj] at h
    split at h
    · rename_i q hh0
      obtain ⟨u, rfl, r1⟩ := args1 ra
      obtain ⟨_, t', rfl⟩ := r1
      obtain ⟨c, e2, h⟩ := opt_some h ho
      obtain ⟨hf, h⟩ := br_stuck h ho
      have hf := of_decide_eq_true hf
      rw [str_one e2]
      refine str_split_ok (by exact Nat.lt_of_lt_of_le hf (Nat.le_of_eq zl)) fun h' tk ws st hr hz => ?_
      obtain ⟨g', I', sg', r'⟩ := (I.grown (tk := s.toks) st).newLst (tk := tk) (hr g) hz
      exact hq _ _ σ _ g' ρ h I' r' sg' (List.prefix_refl ρ)
    · exact absurd h.symm ho
  | la j a hg =>
    dsimp only [aa] at h
    split at h
    · rename_i us e
      obtain ⟨q, hq', e', hc, ws, hl, hr, hz⟩ := cell_at I r e
      cases e'
      split at h
      · rename_i x
        obtain ⟨u, rfl, r1⟩ := args1 ra
        obtain ⟨nc, h⟩ := noCell_some h ho
        obtain ⟨hf, h⟩ := br_stuck h ho
        have hf := of_decide_eq_true hf
        have r1 := low r1 nc
        have hlen := hr.length
        rw [hc]
        refine append_ok hl (fun h' hl' hs' => ?_) (by simpa using hz)
        obtain ⟨mv, II, l⟩ := I
        refine hq _ _ _ { s with heap := h' } g ρ h ⟨mv, II.core hq' hs' ⟨hc, ws ++ [u], by simpa using hl', hr.append (by dsimp only [Reps]; exact ⟨u, [], rfl, r1, rfl⟩), by simp; exact Nat.lt_of_lt_of_le (Nat.lt_of_le_of_lt (Nat.le_of_eq hlen) hf) (Nat.le_of_eq zl)⟩ (by intro q; cases q), l⟩ rfl (StaysIn.refl g) (List.prefix_refl ρ)
      · exact absurd h.symm ho
    · rename_i c ns us e
      obtain ⟨q, hq', e', hx, _⟩ := cell_at I r e
      exfalso
      obtain ⟨tl, rfl⟩ := sp
      rw [List.getElem?_append_left (List.getElem?_eq_some_iff.mp hg).1, hg] at hq'
      cases hq'
      have := cell_g I (List.mem_append_left _ (List.mem_of_getElem? hg))
      rw [this] at hx
      exact nns hx
    · exact absurd h.symm ho
  | ci j x core c name a hx ha =>
    dsimp only at h
    split at h
    · rename_i us e
      exfalso
      obtain ⟨q, hq', e', hc, ws, hl, hr, hz⟩ := cell_at I r e
      cases e'
      have := cell_g I (List.mem_of_getElem? hq')
      rw [← hc, sg _ _ hx] at this
      exact nsn this
    · rename_i c' ns us e
      obtain ⟨q, hq', e', hca⟩ := cell_at I r e
      cases e'
      have hca' := hca
      refine nn fun nG => ?_
      obtain ⟨hx', ws, hn, hr, hl⟩ := hca'
      have ec : c' = c := by
        have := sg _ _ hx
        rw [hx'] at this
        simp only [Option.some.injEq, instObj, Obj.mk.injEq, Value.ref.injEq] at this
        exact this.1
      subst ec
      obtain ⟨a', ea, h⟩ := opt_some h ho
      rw [ha] at ea; cases ea
      obtain ⟨nx, h⟩ := br_stuck h ho
      obtain ⟨nc, h⟩ := br_stuck h ho
      refine nG ?_
      refine K.orc.mf _ _ _ _ _ h ho C.envs A g s q.1 q.2 vs Q E rdy hca (cell_g I (List.mem_of_getElem? hq')) (by intro q; cases q) (lows ra nc) (fun p' v' c' fr g' s' hk st kn kp ca rs ne sm => ?_) fun hexc e g' a0 s' st kn fl sm => ?_
      · exact I.back nx st kn kp sm (.inr ⟨j, q, c', hq', rfl, rfl, ca⟩) rs hk fun p'' σ'' ρ' hk' I' r' hp => hq _ _ _ _ _ _ hk' I' r' st.gg hp
      · refine he hexc e s' (I.sm.same sm) ⟨g', a0, kn, ?_, fl.1, fl.2.1, fl.2.2.1, .inr (.inl fl.2.2.2)⟩
        refine nn fun nG => ?_
        obtain ⟨mv, II, l⟩ := I
        refine nG ?_
        exact II.st.trans st fun b hb => by rw [List.mem_singleton.mp hb]; exact II.cH q (List.mem_of_getElem? hq')
    · exact absurd h.symm ho
  | ob c ns us v name a ha =>
    dsimp only at h
    refine nn fun nG => ?_
    obtain ⟨a', ea, h⟩ := opt_some h ho
    rw [ha] at ea; cases ea
    obtain ⟨nx, h⟩ := br_stuck h ho
    obtain ⟨nc, h⟩ := br_stuck h ho
    refine nG ?_
    have rs : Reps g (.obj c ns us :: ps) (v :: vs) := by
      skip
      exact ⟨v, vs, rfl, r, lows ra nc⟩
    refine K.orc.pf _ _ _ _ h ho C.envs A g s (v :: vs) Q E rdy rs (fun p' v' fr g' s' hk st kn kp rs sm => ?_) fun hexc e g' a0 s' st kn fl sm => ?_
    · exact I.back nx st kn kp sm (.inl ⟨rfl, rfl⟩) rs hk fun p'' σ'' ρ' hk' I' r' hp => hq _ _ _ _ _ _ hk' I' r' st.gg hp
    · refine he hexc e s' (I.sm.same sm) ⟨g', a0, kn, ?_, fl.1, fl.2.1, fl.2.2.1, .inr (.inl fl.2.2.2)⟩
      obtain ⟨mv, II, l⟩ := I
      exact II.st.trans st fun b hb => by exact nim hb
end
end Mine
end
section
set_option maxRecDepth 100000
namespace Mine
open PySem PySem.W PyProof.Rows PySem.Spec PySem.Calls PySem.SeqAt

noncomputable def iterNames : List String := ["list_iterator", "tuple_iterator", "range_iterator", "str_iterator", "str_ascii_iterator", "bytes_iterator"]
noncomputable def ItObj (o : Obj) : Prop := ∃ n vs, o.cls = .type n ∧ o.data = .fields vs ∧ n ∈ iterNames
theorem ItObj.not {o : Obj} (h : ItObj o) : ¬ NoRec o ∧ o.cls ≠ .type "range" := by
  refine nn fun nG => ?_
  obtain ⟨n, vs, hc, hd, hn⟩ := h
  refine nG ?_
  refine ⟨fun q => q vs hd, fun q => ?_⟩
  rw [hc] at q
  cases q
  revert hn; decide

structure Iter (W : Wd) (g : Heap) (I : Addr) (ps : List PV) (fp : List Addr) (P : Nat → Value → Prop) (St : Nat → Heap → Prop) : Prop where
  walks : ∀ A : Around, A.handled = none → Walks PR W.w A I fp [I] ps.length P St
  rep : ∀ i v, i < ps.length → P i v → ∃ p, ps[i]? = some p ∧ Rep g p v
  fps : ∀ b ∈ fp, b = I ∨ ∃ o, g.get? b = some o
  itr : ∀ i h, St i h → ∃ o, h.get? I = some o ∧ ItObj o
  len : ps.length ≤ sizeLine

section
variable {C : Cx} {m : Loc} {g : Heap} {ρ : List (Addr × Addr)} {σ : List Cell} {s : Shared} {E : Value → Shared → Prop} {A : Around}

set_option tactic.hygienic true in
theorem iter_ok (I : At C m g ρ σ s) {p : PV} {ps : List PV} {v : Value} {Q : Value → Shared → Prop} (h : items p = some ps) (r : RepC g ρ p v)
    (hq : ∀ o fp P St, Iter C.W g s.heap.objs.size ps fp P St → St 0 (s.heap.push o) → Q (.ref s.heap.objs.size) { s with heap := s.heap.push o }) : wpAny C.W.M A (pyIter v) Q E s := by
  have z := sizeLine_eq
  have kp := I.keep
  unfold items at h
  split at h
  · rename_i vs
    cases h
    have r : Rep g (.lst ps) v := r
    simp only [Rep] at r
    obtain ⟨a, ws, rfl, hl, hr, hz⟩ := r
    have hl' : s.heap.IsList a ws.toArray := by obtain ⟨o, ho, q⟩ := hl; exact ⟨o, kp _ _ ho, q⟩
    have hne : a ≠ s.heap.objs.size := by obtain ⟨o, ho, q⟩ := hl'; exact Nat.ne_of_lt (Heap.lt_size ho)
    have hlen := hr.length
    refine wpAny_pyIter_list hl' (hq _ [s.heap.objs.size, a] (fun i v => ws.toArray[i]? = some v) (fun i h => h.IsListIter s.heap.objs.size a i ∧ h.IsList a ws.toArray) ⟨fun A' hA => (by rw [← hlen]; simpa using Walks.list (prog := PR) (w := C.W.w) hA s.heap.objs.size a hne ws.toArray), fun i v hi hv => ?_, fun b hb => ?_, ?_, by exact Nat.le_trans (Nat.le_of_eq (Eq.symm hlen)) hz⟩ ⟨⟨_, Heap.get?_push_size _ rfl, rfl, rfl⟩, ?_⟩)
    · have hv : ws.toArray[i]? = some v := hv
      have : i < ps.length := hi
      obtain ⟨u, hu, ru⟩ := hr.get (List.getElem?_eq_getElem this)
      have : u = v := by
        have : ws[i]? = some v := by simpa using hv
        rw [hu] at this; exact Option.some.inj this
      exact ⟨_, List.getElem?_eq_getElem ‹_›, this ▸ ru⟩
    · rcases List.mem_cons.mp hb with rfl | hb
      · exact .inl rfl
      · rw [List.mem_singleton.mp hb]
        obtain ⟨o, ho, q⟩ := hl
        exact .inr ⟨o, ho⟩
    · rintro i h ⟨⟨o, ho, hc, hd⟩, _⟩
      exact ⟨o, ho, _, _, hc, hd, by decide⟩
    · obtain ⟨o, ho, q⟩ := hl'
      exact ⟨o, stays_push _ _ _ _ ho, q⟩
  · rename_i vs
    cases h
    have r : Rep g (.tup ps) v := r
    simp only [Rep] at r
    obtain ⟨a, ws, rfl, hl, hr, hz⟩ := r
    have hl' : s.heap.IsTuple a ws.toArray := by obtain ⟨o, ho, q⟩ := hl; exact ⟨o, kp _ _ ho, q⟩
    have hne : a ≠ s.heap.objs.size := by obtain ⟨o, ho, q⟩ := hl'; exact Nat.ne_of_lt (Heap.lt_size ho)
    have hlen := hr.length
    refine wpAny_pyIter_tuple hl' (hq _ [s.heap.objs.size, a] (fun i v => ws.toArray[i]? = some v) (fun i h => h.IsTupleIter s.heap.objs.size a i ∧ h.IsTuple a ws.toArray) ⟨fun A' hA => (by rw [← hlen]; simpa using Walks.tuple (prog := PR) (w := C.W.w) hA s.heap.objs.size a hne ws.toArray), fun i v hi hv => ?_, fun b hb => ?_, ?_, by exact Nat.le_trans (Nat.le_of_eq (Eq.symm hlen)) hz⟩ ⟨⟨_, Heap.get?_push_size _ rfl, rfl, rfl⟩, ?_⟩)
    · have hv : ws.toArray[i]? = some v := hv
      have : i < ps.length := hi
      obtain ⟨u, hu, ru⟩ := hr.get (List.getElem?_eq_getElem this)
      have : u = v := by
        have : ws[i]? = some v := by simpa using hv
        rw [hu] at this; exact Option.some.inj this
      exact ⟨_, List.getElem?_eq_getElem ‹_›, this ▸ ru⟩
    · rcases List.mem_cons.mp hb with rfl | hb
      · exact .inl rfl
      · rw [List.mem_singleton.mp hb]
        obtain ⟨o, ho, q⟩ := hl
        exact .inr ⟨o, ho⟩
    · rintro i h ⟨⟨o, ho, hc, hd⟩, _⟩
      exact ⟨o, ho, _, _, hc, hd, by decide⟩
    · obtain ⟨o, ho, q⟩ := hl'
      exact ⟨o, stays_push _ _ _ _ ho, q⟩
  · rename_i x
    cases h
    obtain ⟨hz, t, rfl⟩ := r
    have hrep : ∀ i v, i < (x.cps.toList.map fun c => PV.str ⟨#[c]⟩).length → SignAt x i v → ∃ p, (x.cps.toList.map fun c => PV.str ⟨#[c]⟩)[i]? = some p ∧ Rep g p v := by
      intro i v _ hz9
      refine nn fun nG => ?_
      obtain ⟨c, u, hc, rfl⟩ := hz9
      refine nG ?_
      refine ⟨.str ⟨#[c]⟩, by simp [hc], by skip; show 1 ≤ 16777216; decide, _, rfl⟩
    have hlen : (x.cps.toList.map fun c => PV.str ⟨#[c]⟩).length = x.cps.size := by simp
    have hz' : (x.cps.toList.map fun c => PV.str ⟨#[c]⟩).length ≤ sizeLine := by rw [hlen]; exact hz
    cases ha : x.cps.all (· < 128)
    · exact wpAny_pyIter_wide ha (hq _ [s.heap.objs.size] (SignAt x) (fun i h => h.IsStrIter s.heap.objs.size "str_iterator" x t i) ⟨fun A' hA => (by rw [hlen]; exact Walks.strWide hA _ x t), hrep, fun b hb => .inl (List.mem_singleton.mp hb),
        (by rintro i h ⟨o, ho, hc, hd⟩; exact ⟨o, ho, _, _, hc, hd, by decide⟩), hz'⟩ ⟨_, Heap.get?_push_size _ rfl, rfl, rfl⟩)
    · exact wpAny_pyIter_ascii ha (hq _ [s.heap.objs.size] (SignAt x) (fun i h => h.IsStrIter s.heap.objs.size "str_ascii_iterator" x t i) ⟨fun A' hA => (by rw [hlen]; exact Walks.strAscii hA _ x t), hrep, fun b hb => .inl (List.mem_singleton.mp hb),
        (by rintro i h ⟨o, ho, hc, hd⟩; exact ⟨o, ho, _, _, hc, hd, by decide⟩), hz'⟩ ⟨_, Heap.get?_push_size _ rfl, rfl, rfl⟩)
  · rename_i x
    cases h
    obtain ⟨hz, t, rfl⟩ := r
    have hlen : (x.toList.map fun c => PV.int c.toNat).length = x.size := by simp
    refine KBw.pyIter_bytes (hq _ [s.heap.objs.size] (fun i v => ∃ c u, x[i]? = some c ∧ v = .int (c.toNat : Int) u) (fun i h => KBw.IsBytesIter h s.heap.objs.size x t i) ⟨fun A' hA => (by rw [hlen]; exact KBw.walks hA _ x t), ?_, fun b hb => .inl (List.mem_singleton.mp hb),
      (by rintro i h ⟨o, ho, hc, hd⟩; exact ⟨o, ho, _, _, hc, hd, by decide⟩), by rw [hlen]; exact hz⟩ ⟨_, Heap.get?_push_size _ rfl, rfl, rfl⟩)
    intro i v _ hz9
    refine nn fun nG => ?_
    obtain ⟨c, u, hc, rfl⟩ := hz9
    refine nG ?_
    exact ⟨.int c.toNat, by simp [hc], _, rfl⟩
  · rename_i n
    cases h
    have r : Rep g (.rng n) v := r
    simp only [Rep] at r
    obtain ⟨a, t, u, w, rfl, hz, hr⟩ := r
    have hlen : ((List.range n).map fun (i : Nat) => PV.int i).length = n := by simp
    have hsz : (Builtin.Range.rangeSize 0 n 1) = n := by rw [rangeSize_one]; split <;> omega
    refine wpAny_pyIter_range (kp _ _ hr) (small_one (by decide) (by decide) (by omega) (by omega)) (hq _ [s.heap.objs.size] (fun i v => ∃ t, v = .int (0 + i * 1) t) (fun i h => IsRangeIter h s.heap.objs.size (0 + (i : Nat) * 1) ((n : Int) - (i : Nat)) 1) ⟨fun A' hA => (by rw [hlen]; exact Walks.range hA _ 0 1 n), ?_, fun b hb => .inl (List.mem_singleton.mp hb),
      (by rintro i h ho; exact ⟨_, ho, _, _, rfl, rfl, by decide⟩), by rw [hlen]; exact hz⟩ ?_)
    · rintro i v hi ⟨t', rfl⟩
      refine ⟨.int i, by rw [hlen] at hi; simp [hi], t', ?_⟩
      congr 1; omega
    · rw [hsz]
      have : ((0 : Int) + ((0 : Nat) : Int) * 1) = 0 := by decide
      skip
      have : (n : Int) - ((0 : Nat) : Int) = n := by omega
      skip
      exact Heap.get?_push_size _ rfl
  · exact nns h

theorem iter_plain : ∀ n ∈ iterNames, ["enumerate", "zip", "dict_itemiterator", "dict_reverseitemiterator", "odict_iterator", "itertools.zip_longest", "itertools.pairwise"].contains n = false := by decide
theorem go_ok {o : Obj} {I : Addr} (ho : s.heap.get? I = some o) (hi : ItObj o) {target : PySem.Expr} {v : Value} {Q : Unit → Shared → Prop} (hq : Q () s) : wpAny C.W.M A (letOwnedTupleGo target (.ref I) v) Q E s := by
  obtain ⟨n, vs, hc, hd, hn⟩ := hi
  unfold letOwnedTupleGo
  have e := iter_plain n hn
  induction target using PySem.Expr.casesOn with
  | Tuple =>
    induction v using PySem.Value.casesOn with
    | ref a =>
      refine wpAny_bind (wpAny_load ho ?_)
      rw [hc, hd]
      dsimp only
      rw [e]
      exact wpAny_pure hq
    | _ => exact wpAny_pure hq
  | List =>
    induction v using PySem.Value.casesOn with
    | ref a =>
      refine wpAny_bind (wpAny_load ho ?_)
      rw [hc, hd]
      dsimp only
      rw [e]
      exact wpAny_pure hq
    | _ => exact wpAny_pure hq
  | _ => exact wpAny_pure hq

/- an object that stands already is taken in, and let go -/
theorem At.show (h : At C m g ρ σ s) {I : Addr} {o : Obj} (ho : s.heap.get? I = some o) (hi : ¬ NoRec o) : (hx : ∀ p ∈ ρ, p.2 ≠ I) →
    At C m (Mine.ext g s.heap [I]) ρ σ s ∧ g.StaysIn (Mine.ext g s.heap [I]) ∧ (Mine.ext g s.heap [I]).get? I = some o := by
  intro hx
  refine nn fun nG => ?_
  obtain ⟨mv, J, l⟩ := h
  have sg : g.StaysIn (Mine.ext g s.heap [I]) := ext_stays J.keep
  obtain ⟨oL, hoL, hnL⟩ := noRec_ns J.ns
  refine nG ?_
  refine ⟨⟨mv, ⟨J.kn.keeps sg, ext_in, J.ns, ffs_step (mu := []) ⟨.of_stays (StaysIn.refl _), sg, fun b o' e n z => ext_none z fun q => (by rw [List.mem_singleton.mp q, ho] at e; cases e; exact hi n)⟩ J.ffs, ext_none J.gL fun q => ?_, ?_,
    ⟨J.cells.len, fun k p c e1 e2 => (J.cells.at_ k p c e1 e2).keeps sg fun o e => e⟩, fun p hp => ⟨ext_none (J.cg p hp).1 fun q => hx p hp (List.mem_singleton.mp q), (J.cg p hp).2⟩, J.cH, J.cnd⟩, l.mono sg (List.prefix_refl _)⟩, sg, (ext_new (by simp)).trans ho⟩
  · rw [List.mem_singleton.mp q, ho] at hoL; cases hoL; exact hi hnL
  · refine ⟨J.st.up, StaysIn.trans J.st.gg sg, fun b o' e n z => ext_none (J.st.gn b o' e n z) fun q => ?_⟩
    obtain ⟨o2, e2, n2, _⟩ := J.st.up b o' e n
    rw [List.mem_singleton.mp q, ho] at e2; cases e2; exact hi n2
theorem At.hide (h : At C m g ρ σ s) {I : Addr} {o : Obj} (ho : g.get? I = some o) (hi : ¬ NoRec o ∧ o.cls ≠ .type "range") {g₀ : Heap} (k0 : Kn C.W g₀) (s0 : g₀.StaysIn g) (n0 : g₀.get? I = none) (nG : C.G.get? I = none) :
    At C m (g.hide I) ρ σ s ∧ g₀.StaysIn (g.hide I) ∧ (∀ p v, RepC g ρ p v → RepC (g.hide I) ρ p v) := by
  obtain ⟨mv, J, l⟩ := h
  have sub : ∀ b o', g.get? b = some o' → b ≠ I → (g.hide I).get? b = some o' := fun b o' e n => (Heap.hide_ne g n).trans e
  have off : ∀ b o', g.get? b = some o' → NoRec o' ∨ (o'.cls = .type "range") → (g.hide I).get? b = some o' := fun b o' e n => sub b o' e fun q => by
    rw [q, ho] at e; cases e
    rcases n with n | n
    · exact hi.1 n
    · exact hi.2 n
  have s1 : g₀.StaysIn (g.hide I) := fun b o' e => sub b o' (s0 b o' e) fun q => by rw [q, n0] at e; exact nns e
  have hn : ∀ b, g.get? b = none → (g.hide I).get? b = none := fun b e => by
    induction q : (g.hide I).get? b using Option.casesOn with
    | none => rfl
    | some o' => have := Heap.of_hide q; rw [e] at this; exact nns this
  have rc : ∀ p v, RepC g ρ p v → RepC (g.hide I) ρ p v := fun p v r => by
    induction p using PV.casesOn with
    | cell k => exact r
    | _ => exact Rep.off off r
  refine ⟨⟨mv, ⟨k0.keeps s1, fun b o' e => J.keep b o' (Heap.of_hide e), J.ns, ?_, hn _ J.gL, ?_, ?_, fun p hp => ⟨hn _ (J.cg p hp).1, (J.cg p hp).2⟩, J.cH, J.cnd⟩, ⟨fun x i p e1 e2 => ?_, l.os_, l.gens_, fun x i p e1 e2 => ?_⟩⟩, s1, rc⟩
  · have : ∀ {l : List Env}, s.heap.FunFrames g l → s.heap.FunFrames (g.hide I) l := by
      intro l
      induction l with
      | nil => intro _; trivial
      | cons e r ih => rintro ⟨hk, ⟨L, o', hf, hn', ho', hd⟩, hr⟩; exact ⟨hk, ⟨L, o', hf, hn _ hn', ho', hd⟩, ih hr⟩
    exact this J.ffs
  · exact ⟨J.st.up, fun b o' e => sub b o' (J.st.gg b o' e) fun q => (by rw [q, nG] at e; exact nns e), fun b o' e n z => hn _ (J.st.gn b o' e n z)⟩
  · refine ⟨J.cells.len, fun k p c e1 e2 => ?_⟩
    have := J.cells.at_ k p c e1 e2
    induction c using Cell.casesOn with
    | list vs => obtain ⟨e, ws, hl, hr, hz⟩ := this; exact ⟨e, ws, hl, Reps.off off hr, hz⟩
    | inst c ns vs => obtain ⟨e, ws, hl, hr, hz⟩ := this; exact ⟨off _ _ e (.inl fun vs q => by cases q), ws, hl, Reps.off off hr, hz⟩
    | exc => exact this
  · refine nn fun nG => ?_
    obtain ⟨v, a, b⟩ := l.loc x i p e1 e2
    refine nG ?_
    exact ⟨v, a, rc p v b⟩
  · refine nn fun nG => ?_
    obtain ⟨c, v, a, ⟨oc, hoc, hd⟩, b⟩ := l.cel x i p e1 e2
    refine nG ?_
    exact ⟨c, v, a, ⟨oc, off c oc hoc (.inl fun vs q => by rw [hd] at q; cases q), hd⟩, rc p v b⟩
end
end Mine
end
section
set_option maxRecDepth 100000
namespace Mine
open PySem PySem.W PyProof.Rows PySem.Spec PySem.Calls PySem.SeqAt

theorem noteFrame_env {x : Value} {env env' : Env} (h : env.frame = env'.frame) : noteFrame x env = noteFrame x env' := by
  unfold noteFrame PySem.frameOf
  rw [h]

theorem step_slots {g h h' : Heap} (k : h.UpToSlots h') : Step [] g h g h' :=
  ⟨fun b o e n => let ⟨sl, q⟩ := k b o e n; ⟨_, q, noRec_slots n sl, fun ζ => ⟨sl, rfl⟩⟩, StaysIn.refl g, fun ζ ζ ζ ζ e => e⟩
theorem Step.trans0 {mu : List Addr} {g₁ h₁ g₂ h₂ g₃ h₃ : Heap} (x : Step mu g₁ h₁ g₂ h₂) (y : Step [] g₂ h₂ g₃ h₃) : Step mu g₁ h₁ g₃ h₃ := x.trans y fun ζ q => nim q

noncomputable def XAtT (g : Heap) (l : List Env) (e : Addr) (a0 : Value) (L : Addr) (h : Heap) : Prop :=
  g.StaysIn h ∧ g.get? e = none ∧ h.FunFrames g l ∧ (h.TracedW g e (.ref 52) a0 ∨ h.TracedAtW g e (.ref 52) a0 (rawInt L))
noncomputable def XStT (C : Cx) (e : Addr) (h : Heap) : Prop := ∃ g a0, Kn C.W g ∧ Step C.mu C.G C.H g h ∧ XAtT g C.envs e a0 C.fa h
theorem XStT.st {C : Cx} {e : Addr} {h : Heap} (x : XStT C e h) : XSt C e h := let ⟨g, a0, a, b, c1, c2, c3, c4⟩ := x; ⟨g, a0, a, b, c1, c2, c3, .inr c4⟩

section
variable {C : Cx} {s : Shared} {E : Value → Shared → Prop} {A : Around} {M : Model}

theorem x_noted (K : C.Ok) (hA : A.frames = C.A.frames) {e : Addr} {Q : Unit → Shared → Prop} (x : XSt C e s.heap) (h : ∀ h', XStT C e h' → Q () { s with heap := h' }) : wpAny M A (noteFrame (.ref e) C.env) Q E s := by
  obtain ⟨e0, outer, he, hf⟩ := K.hd
  have hfr : A.frames = some (e0 :: outer) := by rw [hA, K.fr, he]
  rw [noteFrame_env (K.frm.trans hf.symm)]
  refine nn fun nG => ?_
  obtain ⟨g, a0, kn, st, c1, c2, c3, c4⟩ := x
  refine nG ?_
  rw [he] at c3
  have fin : ∀ h', Heap.NotedW g (e0 :: outer) e (.ref 52) a0 (rawInt C.fa) s.heap h' → Q () { s with heap := h' } := fun h' ⟨k1, k2, k3, k4⟩ =>
    h h' ⟨g, a0, kn, st.trans0 (step_slots k4), k1, c2, by rw [he]; exact k2, .inr k3⟩
  rcases c4 with ⟨oe, vs, g1, g2, g3, g4, g5⟩ | ht | ht
  · unfold noteFrame
    simp only [hf]
    refine wpAny_bind (wpAny_field g1 g3 g4 ?_)
    rw [if_neg (by decide)]
    exact wpAny_entryW hfr c3 hf g1 c1 c2 g3 (Array.getElem?_eq_some_iff.mp g4).1 g5 fun h' hn => fin h' (by rw [g2] at hn; exact hn)
  · exact wpAny_noteFrame_onW hfr c3 hf ht c1 c2 fin
  · exact wpAny_noteFrame_againW hf ht (h s.heap ⟨g, a0, kn, st, c1, c2, by rw [he]; exact c3, .inr ht⟩)

theorem setFlight_any {base : Heap} {l : List Env} {e L : Addr} {cls a0 fl : Value} {Q : Unit → Shared → Prop} (hkb : base.StaysIn s.heap) (hl : s.heap.FunFrames base l) (ht : s.heap.TracedAtW base e cls a0 fl)
    (h : ∀ h', base.StaysIn h' → h'.FunFrames base l → h'.TracedAtW base e cls a0 (rawInt L) → s.heap.UpToSlots h' → Q () { s with heap := h' }) : wpAny M A (setFlight (.ref e) (some L)) Q E s := by
  refine nn fun nG => ?_
  obtain ⟨oe, vs, T, oT, ts, he, hcls, hd, h1, hnT, hTe, hT, hdT, h3⟩ := ht
  refine nG ?_
  have hsz3 : 3 < ts.size := (Array.getElem?_eq_some_iff.mp h3).1
  have other : ∀ b, b ≠ T → (s.heap.update T (Obj.mapFields (·.setIfInBounds 3 ((some L).elim Value.none fun f => rawInt f)))).get? b = s.heap.get? b :=
    fun b hb => Heap.get?_update_other _ _ (Ne.symm hb)
  have noRecord : ∀ b o, s.heap.get? b = some o → (∀ vs, o.data ≠ .fields vs) → b ≠ T := fun b o hb hnf q => by
    rw [q, hT] at hb; injection hb with hb; subst hb; exact hnf ts hdT
  unfold setFlight
  refine wpAny_bind (wpAny_field he hd h1 ?_)
  rw [if_pos (show (Value.ref T != Value.none) = true from by simp)]
  refine wpAny_setField hT hdT hsz3 (h _ (fun b o hbo => (other b fun q => by rw [q, hnT] at hbo; exact nns hbo).trans (hkb b o hbo))
    (hl.of_keeps fun b o hb hnf => ⟨o, (other b (noRecord b o hb hnf)).trans hb, rfl⟩) ?_ fun b o hb hnf => ⟨o.slots, (other b (noRecord b o hb hnf)).trans hb⟩)
  exact ⟨oe, vs, T, _, _, (other e (Ne.symm hTe)).trans he, hcls, hd, h1, hnT, hTe, Heap.get?_update_self _ hT (Obj.isFreed_of_fields (Obj.data_mapFields hdT _)), Obj.data_mapFields hdT _, by simp [hsz3]⟩

theorem XAtT.at {g : Heap} {l : List Env} {e : Addr} {a0 : Value} {L : Addr} {h : Heap} (x : XAtT g l e a0 L h) : ∃ fl, h.TracedAtW g e (.ref 52) a0 fl := by
  obtain ⟨_, _, _, a | a⟩ := x
  · exact ⟨_, a⟩
  · exact ⟨_, a⟩

theorem x_came (K : C.Ok) {e : Addr} (x : XStT C e s.heap) (h : ∀ h', XStT C e h' → E (.ref e) { s with heap := h' }) : cameBackBy M A C.env E (.ref e) s := by
  unfold cameBackBy
  refine nn fun nG => ?_
  obtain ⟨g, a0, kn, st, x⟩ := x
  obtain ⟨fl, ht⟩ := x.at
  obtain ⟨c1, c2, c3, c4⟩ := x
  obtain ⟨oe, vs, T, oT, ts, he, hcls, hd, h1, _⟩ := id ht
  refine nG ?_
  refine wpAny_bind (wpAny_field he hd h1 ?_)
  rw [if_neg (show ¬ ((Value.ref T == Value.none) = true) from by simp)]
  rw [K.frm]
  have fin : wpAny M A (setFlight (.ref e) (some C.fa)) (fun ζ s'' => E (.ref e) s'') E s := setFlight_any c1 c3 ht fun h' k1 k2 k3 k4 => h h' ⟨g, a0, kn, st.trans0 (step_slots k4), k1, c2, k2, .inr k3⟩
  first
    | exact fin
    | exact wpAny_bind (wpAny_pure fin)
theorem x_pass {α : Type} (K : C.Ok) {what : String} {e : Addr} {env : Env} (hf : env.frame = some C.fa) {Q : α → Shared → Prop} (x : XStT C e s.heap) (h : ∀ h', XStT C e h' → E (.ref e) { s with heap := h' }) : wpAny M A (PySem.passOn what (.ref e) env : Sem α) Q E s := by
  unfold PySem.passOn
  refine nn fun nG => ?_
  obtain ⟨g, a0, kn, st, x⟩ := x
  obtain ⟨fl, ht⟩ := x.at
  obtain ⟨c1, c2, c3, c4⟩ := x
  obtain ⟨oe, vs, T, oT, ts, he, hcls, hd, h1, _⟩ := id ht
  refine nG ?_
  refine wpAny_bind (wpAny_field he hd h1 ?_)
  rw [if_neg (show ¬ ((Value.ref T == Value.none) = true) from by simp)]
  rw [hf]
  have fin : wpAny M A (setFlight (.ref e) (some C.fa) >>= fun ζ => (throw (.ref e) : Sem α)) Q E s := wpAny_bind (setFlight_any c1 c3 ht fun h' k1 k2 k3 k4 => wpAny_throw (h h' ⟨g, a0, kn, st.trans0 (step_slots k4), k1, c2, k2, .inr k3⟩))
  first
    | exact fin
    | exact wpAny_bind (wpAny_pure fin)

/- leaving a function -/
theorem x_leave {env : Env} {outer : List Env} (hfr : A.frames = some (env :: outer)) (hf : env.frame = some C.fa) (he : C.envs = env :: outer) {e : Addr} {Q : Unit → Shared → Prop} (x : XSt C e s.heap)
    (h : ∀ g a0 h', Kn C.W g → Step C.mu C.G C.H g h' → Heap.FlyingW g outer e (.ref 52) a0 h' → Q () { s with heap := h' }) : wpAny M A (leaving env (.ref e)) Q E s := by
  refine nn fun nG => ?_
  obtain ⟨g, a0, kn, st, c1, c2, c3, c4⟩ := x
  refine nG ?_
  rw [he] at c3
  have fin : ∀ h', Heap.LeftW g (env :: outer) e (.ref 52) a0 s.heap h' → Q () { s with heap := h' } := fun h' ⟨k1, k2, k3, k4⟩ =>
    h g a0 h' kn (st.trans0 (step_slots k4)) ⟨k1, c2, k2.2.2, k3⟩
  rcases c4 with ⟨oe, vs, g1, g2, g3, g4, g5⟩ | ht | ht
  · exact wpAny_leaving_firstW hfr c3 hf g1 c1 c2 g3 g4 g5 fun h' hn => fin h' (by rw [g2] at hn; exact hn)
  · exact wpAny_leaving_nextW hfr c3 hf ht c1 c2 fin
  · unfold leaving
    refine wpAny_bind (wpAny_noteFrame_againW hf ht ?_)
    exact wpAny_setFlight_noneW c1 c3 ht fun h' k1 k2 k3 k4 => h g a0 h' kn (st.trans0 (step_slots fun b o hb hn => ⟨o.slots, k4 b o hb hn⟩)) ⟨k1, c2, k2.2.2, k3⟩
end
end Mine
end
section
set_option maxRecDepth 100000
namespace Mine
open PySem PySem.W PyProof.Rows PySem.Spec PySem.Calls PySem.SeqAt

/- an object of the frame's own that no cell and no kept value is -/
structure Foreign (C : Cx) (g : Heap) (ρ : List (Addr × Addr)) (a : Addr) : Prop where
  g : g.get? a = none
  L : a ≠ C.L
  c : ∀ p ∈ ρ, p.2 ≠ a
  f : ∀ e ∈ C.envs, e.frame ≠ some a
  H : Free [] C.H a

section
variable {C : Cx} {m : Loc} {g : Heap} {ρ : List (Addr × Addr)} {σ : List Cell} {s : Shared} {E : Value → Shared → Prop} {A : Around}

theorem At.here (h : At C m g ρ σ s) {p : Addr × Addr} (hp : p ∈ ρ) : ∃ o, s.heap.get? p.2 = some o := by
  refine nn fun nG => ?_
  obtain ⟨mv, I, l⟩ := h
  obtain ⟨k, hk⟩ := List.getElem?_of_mem hp
  refine nG ?_
  have hl : k < σ.length := by rw [← I.cells.len]; exact (List.getElem?_eq_some_iff.mp hk).1
  have := I.cells.at_ k p _ hk (List.getElem?_eq_getElem hl)
  induction hc : σ[k] using Cell.casesOn with
  | list vs => rw [hc] at this; obtain ⟨e, ws, hl, _⟩ := this; obtain ⟨o, ho, _⟩ := noRec_list hl.isList; exact ⟨o, ho⟩
  | inst c ns vs => rw [hc] at this; obtain ⟨e, ws, hl, _⟩ := this; obtain ⟨o, ho, _⟩ := noRec_ns hl.ns; exact ⟨o, ho⟩
  | exc => rw [hc] at this; obtain ⟨e, oe, vs, ho, _⟩ := this; exact ⟨oe, ho⟩

theorem Foreign.new (h : At C m g ρ σ s) {a : Addr} (ha : s.heap.get? a = none) : Foreign C g ρ a := by
  have hh := h
  obtain ⟨mv, I, l⟩ := h
  refine ⟨?_, fun q => ?_, fun p hp q => ?_, ?_, fun o ho hn => ?_⟩
  · induction q : g.get? a using Option.casesOn with
    | none => rfl
    | some o => rw [I.keep _ _ q] at ha; exact nsn ha
  · refine nn fun nG => ?_
    obtain ⟨o, ho, _⟩ := noRec_ns I.ns
    refine nG ?_
    rw [← q, ha] at ho; exact nns ho
  · refine nn fun nG => ?_
    obtain ⟨o, ho⟩ := hh.here hp
    refine nG ?_
    rw [q, ha] at ho; exact nns ho
  · have : ∀ {l : List Env}, s.heap.FunFrames g l → ∀ e ∈ l, e.frame ≠ some a := by
      intro l
      induction l with
      | nil => intro _ e he; exact nim he
      | cons x r ih =>
        rintro ⟨hk, ⟨L, o, hf, hn, ho, hd⟩, hr⟩ e he q
        rcases List.mem_cons.mp he with rfl | he
        · rw [hf] at q; cases q; rw [ha] at ho; exact nns ho
        · exact ih hr e he q
    exact this I.ffs
  · refine nn fun nG => ?_
    obtain ⟨o', ho', _⟩ := I.st.up _ _ ho hn
    refine nG ?_
    rw [ha] at ho'; exact nns ho'

theorem frames_same {h h' g : Heap} {a : Addr} (sb : Heap.SameBut a h h') : ∀ {l : List Env}, (∀ e ∈ l, e.frame ≠ some a) → h.FunFrames g l → h'.FunFrames g l
  | [], _, _ => trivial
  | x :: r, hf, ⟨hk, ⟨L, o, h1, hn, ho, hd⟩, hr⟩ => ⟨hk, ⟨L, o, h1, hn, (sb.2 L fun q => hf x (.head _) (q ▸ h1)).trans ho, hd⟩, frames_same sb (fun e he => hf e (.tail _ he)) hr⟩
theorem frames_base {h g g' : Heap} {a : Addr} (hg : ∀ b, g.get? b = none → b ≠ a → g'.get? b = none) : ∀ {l : List Env}, (∀ e ∈ l, e.frame ≠ some a) → h.FunFrames g l → h.FunFrames g' l
  | [], _, _ => trivial
  | x :: r, hf, ⟨hk, ⟨L, o, h1, hn, ho, hd⟩, hr⟩ => ⟨hk, ⟨L, o, h1, hg L hn fun q => hf x (.head _) (q ▸ h1), ho, hd⟩, frames_base hg (fun e he => hf e (.tail _ he)) hr⟩

theorem At.foreign (h : At C m g ρ σ s) {a : Addr} (F : Foreign C g ρ a) {s' : Shared} (sb : Heap.SameBut a s.heap s'.heap) (sm : Same s s' := by exact ⟨rfl, rfl⟩) : At C m g ρ σ s' := by
  obtain ⟨mv, I, l⟩ := h
  refine ⟨mv, ⟨I.kn, fun b o e => (sb.2 b fun q => by rw [q, F.g] at e; exact nns e).trans (I.keep b o e), I.ns.sameBut sb (Ne.symm F.L), frames_same sb F.f I.ffs, I.gL, ?_,
    ⟨I.cells.len, fun k p c e1 e2 => (I.cells.at_ k p c e1 e2).keeps (StaysIn.refl g) fun o e => (sb.2 p.2 (F.c p (List.mem_of_getElem? e1))).trans e⟩, I.cg, I.cH, I.cnd⟩, ⟨l.loc, sm.1.trans l.os_, sm.2.trans l.gens_, l.cel⟩⟩
  refine ⟨fun b o e n => ?_, I.st.gg, I.st.gn⟩
  refine nn fun nG => ?_
  obtain ⟨o', e', n', k⟩ := I.st.up b o e n
  refine nG ?_
  exact ⟨o', (sb.2 b fun q => by rw [q] at e; cases F.H o e n).trans e', n', k⟩

/- a list of the frame's own is kept for good -/
theorem At.freeze (h : At C m g ρ σ s) {a : Addr} (F : Foreign C g ρ a) {vs : List PV} {ws : List Value} (hl : LList s.heap a ws.toArray) (hr : Reps g vs ws) (hz : ws.length ≤ sizeLine) :
    At C m (Mine.ext g s.heap [a]) ρ σ s ∧ g.StaysIn (Mine.ext g s.heap [a]) ∧ Rep (Mine.ext g s.heap [a]) (.lst vs) (.ref a) := by
  refine nn fun nG => ?_
  obtain ⟨mv, I, l⟩ := h
  refine nG ?_
  have sg : g.StaysIn (Mine.ext g s.heap [a]) := ext_stays I.keep
  have hn : ∀ b, g.get? b = none → b ≠ a → (Mine.ext g s.heap [a]).get? b = none := fun b e q => ext_none e fun z => q (List.mem_singleton.mp z)
  refine ⟨⟨mv, ⟨I.kn.keeps sg, ext_in, I.ns, frames_base hn F.f I.ffs, hn _ I.gL (Ne.symm F.L), ⟨I.st.up, StaysIn.trans I.st.gg sg, fun b o e n z => hn b (I.st.gn b o e n z) fun q => ?_⟩,
    ⟨I.cells.len, fun k p c e1 e2 => (I.cells.at_ k p c e1 e2).keeps sg fun o e => e⟩, fun p hp => ⟨hn _ (I.cg p hp).1 (F.c p hp), (I.cg p hp).2⟩, I.cH, I.cnd⟩, l.mono sg (List.prefix_refl _)⟩, sg, ?_⟩
  · rw [q] at e; cases F.H o e n
  · simp only [Rep]
    refine nn fun nG => ?_
    obtain ⟨n, sl, ho⟩ := hl
    refine nG ?_
    exact ⟨a, ws, rfl, ⟨_, (ext_new (by simp)).trans ho, rfl, _, rfl⟩, hr.mono sg, hz⟩

/- a context within: a comprehension's own -/
noncomputable def Cx.inner (C : Cx) (env : Env) (L : Addr) (ns : Names) (g : Heap) (ρ : List (Addr × Addr)) (h : Heap) : Cx := { C with env := env, L := L, ns := ns, mu := ρ.map (·.2), G := g, H := h }
theorem Cx.Ok.inner (K : C.Ok) {env : Env} {L : Addr} {ns : Names} {h : Heap} (h1 : env.scope.kind = .function) (h2 : env.scope.names = ns) (h3 : env.locals = L) (h4 : env.globals = mainGlobals) (h5 : env.builtins = builtinsNs) (h6 : env.frame = some C.fa) :
    (C.inner env L ns g ρ h).Ok := ⟨h1, h2, h3, h4, h5, K.fr, K.hd, h6, K.hand, K.dep, K.un, K.orc⟩

theorem At.into (I : At C m g ρ σ s) {L : Addr} (F : Foreign C g ρ L) {mv : Str → Option Value} (hn : s.heap.Ns L mv) {env : Env} {ns : Names} {m' : Loc} (l : LocOk ns m' mv g ρ) (cl : Cel ns env.cells m' g ρ) :
    At (C.inner env L ns g ρ s.heap) m' g ρ σ s := by
  refine nn fun nG => ?_
  obtain ⟨mv0, J, l0⟩ := I
  refine nG ?_
  exact ⟨mv, ⟨J.kn, J.keep, hn, J.ffs, F.g, Step.refl _ _ _, J.cells, fun p hp => ⟨(J.cg p hp).1, F.c p hp⟩, fun p hp => Free.mem (List.mem_map_of_mem hp), J.cnd⟩, ⟨l, l0.os_, l0.gens_, cl⟩⟩

theorem inner_free (I : At C m g ρ σ s) : ∀ b ∈ ρ.map (·.2), Free C.mu C.H b := by
  refine nn fun nG => ?_
  obtain ⟨mv, J, l⟩ := I
  refine nG ?_
  intro b hb
  obtain ⟨p, hp, rfl⟩ := List.mem_map.mp hb
  exact J.cH p hp
theorem At.outof (I : At C m g ρ σ s) {env : Env} {L : Addr} {ns : Names} {m' : Loc} {g2 : Heap} {ρ2 : List (Addr × Addr)} {σ2 : List Cell} {s2 : Shared} (J : At (C.inner env L ns g ρ s.heap) m' g2 ρ2 σ2 s2) (sg : g.StaysIn g2) (sp : ρ <+: ρ2) : At C m g2 ρ2 σ2 s2 := by
  have fr := inner_free I
  refine nn fun nG => ?_
  obtain ⟨mv0, I, l0⟩ := I
  obtain ⟨mv, J, l⟩ := J
  have hmL : C.L ∉ ρ.map (·.2) := fun q => by
    obtain ⟨p, hp, e⟩ := List.mem_map.mp q
    exact (I.cg p hp).2 e
  obtain ⟨oL, hoL, hnL⟩ := noRec_ns I.ns
  refine nG ?_
  refine ⟨mv0, ⟨J.kn, J.keep, ns_up I.ns J.st.up hmL, ffs_step J.st I.ffs, J.st.gn _ _ hoL hnL I.gL, I.st.trans J.st fr, J.cells, fun p hp => ⟨(J.cg p hp).1, fun q => ?_⟩, fun p hp o ho hn => ?_, J.cnd⟩, ⟨l0.loc.mono sg sp, l.os_, l.gens_, l0.cel.mono sg sp⟩⟩
  · exact hmL (J.cH p hp oL (by rw [q]; exact hoL) hnL |> fun z => q ▸ z)
  · refine nn fun nG => ?_
    obtain ⟨o', ho', hn', _⟩ := I.st.up _ _ ho hn
    refine nG ?_
    exact fr p.2 (J.cH p hp o' ho' hn') o ho hn
theorem Foreign.outof (I : At C m g ρ σ s) {a : Addr} (F : Foreign C g ρ a) (ha : ∃ o, s.heap.get? a = some o ∧ NoRec o) {env : Env} {L : Addr} {ns : Names} {m' : Loc} {g2 : Heap} {ρ2 : List (Addr × Addr)} {σ2 : List Cell} {s2 : Shared}
    (J : At (C.inner env L ns g ρ s.heap) m' g2 ρ2 σ2 s2) : Foreign C g2 ρ2 a := by
  refine nn fun nG => ?_
  obtain ⟨o, ho, hn⟩ := ha
  obtain ⟨mv, J, l⟩ := J
  refine nG ?_
  refine ⟨J.st.gn _ _ ho hn F.g, F.L, fun p hp q => ?_, F.f, F.H⟩
  have := J.cH p hp o (by rw [q]; exact ho) hn
  obtain ⟨p', hp', e⟩ := List.mem_map.mp this
  exact F.c p' hp' (e.trans q)
theorem inner_up (I : At C m g ρ σ s) {a : Addr} (F : Foreign C g ρ a) {env : Env} {L : Addr} {ns : Names} {m' : Loc} {g2 : Heap} {ρ2 : List (Addr × Addr)} {σ2 : List Cell} {s2 : Shared}
    (J : At (C.inner env L ns g ρ s.heap) m' g2 ρ2 σ2 s2) : UpTo (ρ.map (·.2)) s.heap s2.heap ∧ a ∉ ρ.map (·.2) := by
  refine nn fun nG => ?_
  obtain ⟨mv, J, l⟩ := J
  refine nG ?_
  exact ⟨J.st.up, fun q => by obtain ⟨p, hp, e⟩ := List.mem_map.mp q; exact F.c p hp e⟩

theorem XStT.outof (I : At C m g ρ σ s) {env : Env} {L : Addr} {ns : Names} {e : Addr} {h : Heap} (x : XStT (C.inner env L ns g ρ s.heap) e h) : XStT C e h := by
  have fr := inner_free I
  refine nn fun nG => ?_
  obtain ⟨g2, a0, kn, st, x⟩ := x
  obtain ⟨mv0, I, l0⟩ := I
  refine nG ?_
  exact ⟨g2, a0, kn, I.st.trans st fr, x⟩
theorem XStT.foreign (I : At C m g ρ σ s) {a : Addr} (F : Foreign C g ρ a) (ha : ∃ o, s.heap.get? a = some o ∧ NoRec o) {env : Env} {L : Addr} {ns : Names} {e : Addr} {h h' : Heap} (x : XStT (C.inner env L ns g ρ s.heap) e h)
    (sb : Heap.SameBut a h h') : XStT C e h' := by
  have fr := inner_free I
  refine nn fun nG => ?_
  obtain ⟨g2, a0, kn, st, c1, c2, c3, c4⟩ := x
  obtain ⟨mv0, I, l0⟩ := I
  obtain ⟨o, ho, hn⟩ := ha
  refine nG ?_
  have ga : g2.get? a = none := st.gn _ _ ho hn F.g
  have hr : ∀ b o', h.get? b = some o' → (∃ vs, o'.data = .fields vs) → b ≠ a := fun b o' e' ⟨vs, q⟩ z => by
    obtain ⟨o2, e2, n2, _⟩ := st.up a o ho hn
    rw [z, e2] at e'; cases e'; exact n2 vs q
  have tr : ∀ fl, h.TracedAtW g2 e (.ref 52) a0 fl → h'.TracedAtW g2 e (.ref 52) a0 fl := by
    intro fl hz9
    refine nn fun nG => ?_
    obtain ⟨oe, vs, T, oT, ts, q1, q2, q3, q4, q5, q6, q7, q8, q9⟩ := hz9
    refine nG ?_
    exact ⟨oe, vs, T, oT, ts, (sb.2 e (hr _ _ q1 ⟨_, q3⟩)).trans q1, q2, q3, q4, q5, q6, (sb.2 T (hr _ _ q7 ⟨_, q8⟩)).trans q7, q8, q9⟩
  refine ⟨g2, a0, kn, ?_, fun b o' e' => (sb.2 b fun q => by rw [q, ga] at e'; exact nns e').trans (c1 b o' e'), c2, frames_same sb F.f c3, c4.imp (tr _) (tr _)⟩
  have st' := I.st.trans st fr
  refine ⟨fun b o' e' n => ?_, st'.gg, st'.gn⟩
  refine nn fun nG => ?_
  obtain ⟨o2, e2, n2, k⟩ := st'.up b o' e' n
  refine nG ?_
  exact ⟨o2, (sb.2 b fun q => by rw [q] at e'; cases F.H o' e' n).trans e2, n2, k⟩
end
end Mine
end
section
set_option maxRecDepth 100000
namespace Mine
open PySem PySem.W PyProof.Rows PySem.Spec PySem.Calls PySem.SeqAt

noncomputable def KP (C : Cx) (m : Loc) (g : Heap) (ρ : List (Addr × Addr)) (k : KV) (o : Out) (Q : Value → Shared → Prop) : Prop :=
  ∀ p v σ' s' g' ρ', k p σ' = o → At C m g' ρ' σ' s' → RepC g' ρ' p v → g.StaysIn g' → ρ <+: ρ' → Q v s'
noncomputable def KPB (C : Cx) (m : Loc) (g : Heap) (ρ : List (Addr × Addr)) (k : KB) (o : Out) (Q : Bool → Shared → Prop) : Prop :=
  ∀ c σ' s' g' ρ', k c σ' = o → At C m g' ρ' σ' s' → g.StaysIn g' → ρ <+: ρ' → Q c s'
noncomputable def SE (n : Nat) (C : Cx) : Prop := ∀ e m σ k o, evalE C.O C.ns n e m σ k = o → o ≠ .stuck → ∀ g ρ s Q E, At C m g ρ σ s → Ex C E o → KP C m g ρ k o Q → wpAny C.W.M C.A (eval e C.env) Q E s
noncomputable abbrev testsOf (es : List PySem.Expr) (env : Env) : Sem Bool := forIn es true fun c r => if r = true then do let ok ← isTrue c env (eval c env); pure (ForInStep.yield ok) else pure (ForInStep.yield r)
noncomputable def SI (n : Nat) (C : Cx) : Prop := ∀ es m σ k o, ifsE C.O C.ns n es m σ k = o → o ≠ .stuck → ∀ g ρ s Q E, At C m g ρ σ s → Ex C E o → KPB C m g ρ k o Q → wpAny C.W.M C.A (testsOf es C.env) Q E s

section
variable {C : Cx} {m : Loc} {g : Heap} {ρ : List (Addr × Addr)} {σ : List Cell} {s : Shared} {E : Value → Shared → Prop} {A : Around}

theorem At.extBut (h : At C m g ρ σ s) {a : Addr} (F : Foreign C g ρ a) {s' : Shared} (k : ∀ b o, b ≠ a → s.heap.get? b = some o → s'.heap.get? b = some o) (sm : Same s s' := by exact ⟨rfl, rfl⟩) : At C m g ρ σ s' := by
  refine nn fun nG => ?_
  obtain ⟨mv, I, l⟩ := h
  refine nG ?_
  have fr : ∀ {l : List Env}, (∀ e ∈ l, e.frame ≠ some a) → s.heap.FunFrames g l → s'.heap.FunFrames g l := by
    intro l
    induction l with
    | nil => intro _ _; trivial
    | cons x r ih => rintro hf ⟨hk, ⟨L, o, h1, hn, ho, hd⟩, hr⟩; exact ⟨hk, ⟨L, o, h1, hn, k L o (fun q => hf x (.head _) (q ▸ h1)) ho, hd⟩, ih (fun e he => hf e (.tail _ he)) hr⟩
  refine ⟨mv, ⟨I.kn, fun b o e => k b o (fun q => by rw [q, F.g] at e; exact nns e) (I.keep b o e), ?_, fr F.f I.ffs, I.gL, ?_,
    ⟨I.cells.len, fun j p c e1 e2 => (I.cells.at_ j p c e1 e2).keeps (StaysIn.refl g) fun o e => k _ o (F.c p (List.mem_of_getElem? e1)) e⟩, I.cg, I.cH, I.cnd⟩, ⟨l.loc, sm.1.trans l.os_, sm.2.trans l.gens_, l.cel⟩⟩
  · refine nn fun nG => ?_
    obtain ⟨o, es, ep, ho, r⟩ := I.ns
    refine nG ?_
    exact ⟨o, es, ep, k _ _ (Ne.symm F.L) ho, r⟩
  · refine ⟨fun b o e n => ?_, I.st.gg, I.st.gn⟩
    refine nn fun nG => ?_
    obtain ⟨o', e', n', q⟩ := I.st.up b o e n
    refine nG ?_
    exact ⟨o', k _ _ (fun q => by rw [q] at e; cases F.H o e n) e', n', q⟩

theorem Foreign.ext {a b : Addr} (F : Foreign C g ρ a) {h : Heap} (hne : a ≠ b) : Foreign C (Mine.ext g h [b]) ρ a :=
  ⟨ext_none F.g fun q => hne (List.mem_singleton.mp q), F.L, F.c, F.f, F.H⟩
theorem Foreign.hide {a b : Addr} (F : Foreign C g ρ a) : Foreign C (g.hide b) ρ a := by
  refine ⟨?_, F.L, F.c, F.f, F.H⟩
  induction q : (g.hide b).get? a using Option.casesOn with
  | none => rfl
  | some o => have := Heap.of_hide q; rw [F.g] at this; exact nns this

set_option tactic.hygienic true in
theorem setN_some {ns : Names} {x : Str} {v : PV} {m : Loc} {k : Loc → Out} {o : Out} (h : setN ns x v m k = o) (ho : o ≠ .stuck) : ∃ i, slot x ns 0 = some (i, .local) ∧ k (m.set i (some v)) = o := by
  unfold setN at h
  split at h
  · rename_i i e
    exact ⟨i, e, h⟩
  · exact absurd h.symm ho

theorem LocOk.set {ns : Names} {m : Loc} {mv : Str → Option Value} (l : LocOk ns m mv g ρ) {x : Str} {i : Nat} (hs : slot x ns 0 = some (i, .local)) {p : PV} {v : Value} (r : RepC g ρ p v) :
    LocOk ns (m.set i (some p)) (fun y => if y = x then some v else mv y) g ρ := by
  intro y j q e1 e2
  by_cases hy : y = x
  · subst hy
    rw [hs] at e1
    cases e1
    refine ⟨v, if_pos rfl, ?_⟩
    rw [List.getElem?_set_self'] at e2
    induction hm : m[i]? using Option.casesOn with
    | none => rw [hm] at e2; exact nns e2
    | some z => rw [hm] at e2; cases e2; exact r
  · have hij : i ≠ j := by
      intro hij
      subst hij
      refine nn fun nG => ?_
      obtain ⟨_, _, a⟩ := slot_lookup hs
      obtain ⟨_, _, b⟩ := slot_lookup e1
      refine nG ?_
      rw [a] at b
      exact hy (Option.some.inj b).symm
    rw [List.getElem?_set_ne hij] at e2
    refine nn fun nG => ?_
    obtain ⟨u, a, b⟩ := l y j q e1 e2
    refine nG ?_
    exact ⟨u, (if_neg hy).trans a, b⟩
theorem LocOk.none {ns : Names} (mv : Str → Option Value) : LocOk ns (ns.map fun ζ => none) mv g ρ := by
  intro y j q e1 e2
  rw [List.getElem?_map] at e2
  induction h : ns[j]? using Option.casesOn with
  | none => rw [h] at e2; exact nns e2
  | some z => rw [h] at e2; cases e2

theorem Cel.set {ns : Names} {cells : List (Str × Addr)} {m : Loc} {x : Str} {i : Nat} (h : Cel ns cells m g ρ) (hs : slot x ns 0 = some (i, .local)) (p : PV) : Cel ns cells (m.set i (some p)) g ρ := by
  intro y j q e1 e2
  have hij : i ≠ j := by
    rintro rfl
    refine nn fun nG => ?_
    obtain ⟨l1, _, a⟩ := slot_lookup hs
    obtain ⟨l2, _, b⟩ := slot_lookup e1
    refine nG ?_
    rw [a] at b
    have := Option.some.inj b
    subst this
    rw [l1] at l2; cases l2
  rw [List.getElem?_set_ne hij] at e2
  exact h y j q e1 e2
noncomputable abbrev compG (O : Orc) (names : Names) (m0 : Loc) (n : Nat) (x : Str) (ifs : List PySem.Expr) (elt : PySem.Expr) : PV → List Cell → (Option PV → List Cell → Out) → Out := fun x' σ k' => setN names x x' m0 fun m' =>
  ifsE O names n ifs m' σ fun c σ => br c (evalE O names n elt m' σ fun y σ => noCell y (k' (some y) σ)) (k' .none σ)
noncomputable abbrev compF (O : Orc) (names : Names) (n : Nat) (x : Str) (ifs : List PySem.Expr) (elt : PySem.Expr) : PV → List Cell → (Option PV → List Cell → Out) → Out := fun x' σ k' => setN names x x' (names.map fun ζ => .none) fun m' =>
  ifsE O names n ifs m' σ fun c σ => br c (evalE O names n elt m' σ fun y σ => noCell y (k' (some y) σ)) (k' .none σ)

theorem comp_ok {n : Nat} {names : Names} {m0 : Loc} (hm0 : ∀ mv g ρ, LocOk names m0 mv g ρ) (K : C.Ok) (HE : ∀ C, C.Ok → SE n C) (HI : ∀ C, C.Ok → SI n C) {elt iter : PySem.Expr} {x : Str} {px pos : Pos} {ifs : List PySem.Expr} {sc : Scope} {cenv : Env} {It D L : Addr} {ps : List PV} {fp : List Addr} {P : Nat → Value → Prop} {St : Nat → Heap → Prop} {mv : Str → Option Value}
    {k : List PV → List Cell → Out} {o : Out} {R : Result → Shared → Prop} (ho : o ≠ .stuck) (I : At C m g ρ σ s) (W : Iter C.W g It ps fp P St) (hst : St 0 s.heap) (hD : LList s.heap D #[]) (hL : s.heap.Ns L mv)
    (FI : Foreign C g ρ It) (FD : Foreign C g ρ D) (FL : Foreign C g ρ L) (nID : It ≠ D) (nIL : It ≠ L) (nDL : D ≠ L) (GI : C.G.get? It = none)
    (h1 : cenv.scope.kind = .function) (h2 : cenv.scope.names = names) (hcel : Cel names cenv.cells m0 g ρ) (h3 : cenv.locals = L) (h4 : cenv.globals = mainGlobals) (h5 : cenv.builtins = builtinsNs) (h6 : cenv.frame = some C.fa)
    (h : compL ps (compG C.O names m0 n x ifs elt) σ k = o)
    (hR : ∀ ys ws σ' g' ρ' s' mv', k ys σ' = o → At C m g' ρ' σ' s' → Foreign C g' ρ' D → Foreign C g' ρ' L → LList s'.heap D ws.toArray → Reps g' ys ws → ws.length ≤ sizeLine → s'.heap.Ns L mv' → g.StaysIn g' → ρ <+: ρ' → R (.ok .next) s')
    (hX : o = .exc → ∀ e s', Sm C s' → (∃ mv', s'.heap.Ns L mv') → (∀ h', Heap.SameBut L s'.heap h' → XStT C e h') → R (.error (.ref e)) s') :
    codeAny (model PR C.W.w) C.A (.compLoop (.ListComp elt [⟨.Name x px, iter, ifs, 0⟩] sc pos) 0 (.ref It) (.ref D) cenv) R s := by
  have z := sizeLine_eq
  have WW := W.walks C.A K.hand
  have kn0 := I.kn
  refine codeAny_compLoop_tests (fun n' s' => ∃ i g' ρ' σ' acc ws mv', n' = ps.length + 1 - i ∧ i ≤ ps.length ∧ compL (ps.drop i) (compG C.O names m0 n x ifs elt) σ' (fun ys σ => k (acc ++ ys) σ) = o ∧ At C m g' ρ' σ' s' ∧ St i s'.heap ∧
      LList s'.heap D ws.toArray ∧ Reps g' acc ws ∧ acc.length ≤ i ∧ Foreign C g' ρ' It ∧ Foreign C g' ρ' D ∧ Foreign C g' ρ' L ∧ s'.heap.Ns L mv' ∧ g.StaysIn g' ∧ ρ <+: ρ') ?_ (ps.length + 1)
    ⟨0, g, ρ, σ, [], [], mv, rfl, Nat.zero_le _, h, I, hst, hD, (by simp [Reps]), Nat.le_refl _, FI, FD, FL, hL, StaysIn.refl g, List.prefix_refl ρ⟩ (by intro _; rfl)
  intro n' s₀ hz9
  refine nn fun nG => ?_
  obtain ⟨i, g₁, ρ₁, σ₁, acc, ws, mv₁, rfl, hi, hc, I₁, st₁, hD₁, hr₁, ha₁, FI₁, FD₁, FL₁, hL₁, sg₁, sp₁⟩ := hz9
  refine nG ?_
  have hlen := hr₁.length
  have wl := W.len
  by_cases hlt : i < ps.length
  · refine WW.item i s₀ _ _ hlt st₁ fun v h' tk hP st₂ hk => ?_
    have hk : ∀ b o, b ≠ It → s₀.heap.get? b = some o → h'.get? b = some o := fun b o hb e => hk b o (by simpa using hb) e
    refine nn fun nG => ?_
    obtain ⟨p, hp, rp⟩ := W.rep i v hlt hP
    have I₂ : At C m g₁ ρ₁ σ₁ { s₀ with heap := h', toks := tk } := I₁.extBut FI₁ hk
    have hD₂ : LList h' D ws.toArray := by obtain ⟨a, b, c⟩ := hD₁; exact ⟨a, b, hk _ _ (Ne.symm nID) c⟩
    have hL₂ : h'.Ns L mv₁ := by obtain ⟨o, es, ep, e, r⟩ := hL₁; exact ⟨o, es, ep, hk _ _ (Ne.symm nIL) e, r⟩
    have hdrop : ps.drop i = p :: ps.drop (i + 1) := by
      obtain ⟨hl, e⟩ := List.getElem?_eq_some_iff.mp hp
      rw [List.drop_eq_getElem_cons hl, e]
    rw [hdrop] at hc
    have hc : compG C.O names m0 n x ifs elt p σ₁ (fun r σ => compL (ps.drop (i + 1)) (compG C.O names m0 n x ifs elt) σ fun ys σ => k (acc ++ (match r with | some y => y :: ys | .none => ys)) σ) = o := hc
    obtain ⟨j, hj, hc⟩ := setN_some hc ho
    obtain ⟨lk, _, _⟩ := slot_lookup hj
    refine nG ?_
    dsimp only
    refine wpAny_assign_Name (wpAny_storeName_local (m := mv₁) (by unfold Env.kindOf; rw [h2]; exact lk) (by rw [h3]; exact hL₂) (fun h₃ hn₃ sb₃ => ?_) (by rw [h1]; rfl))
    rw [h3] at hn₃ sb₃
    have I₃ : At C m g₁ ρ₁ σ₁ { s₀ with heap := h₃, toks := tk + 1 } := I₂.foreign FL₁ sb₃
    have hD₃ : LList h₃ D ws.toArray := by obtain ⟨a, b, c⟩ := hD₂; exact ⟨a, b, (sb₃.2 _ nDL).trans c⟩
    have st₃ : St (i + 1) h₃ := WW.frame _ _ _ st₂ fun b hb o e => by
      refine (sb₃.2 b fun q => ?_).trans e
      rcases W.fps b hb with q' | ⟨o', e'⟩
      · exact nIL (q'.symm.trans q)
      · have := sg₁ _ _ e'; rw [q, FL₁.g] at this; exact nns this
    refine nn fun nG => ?_
    obtain ⟨oI, hoI, itI⟩ := W.itr _ _ st₃
    obtain ⟨I₄, sg₄, gI⟩ := I₃.show hoI itI.not.1 FI₁.c
    refine nG ?_
    have FL₄ : Foreign C (Mine.ext g₁ h₃ [It]) ρ₁ L := FL₁.ext (Ne.symm nIL)
    have FD₄ : Foreign C (Mine.ext g₁ h₃ [It]) ρ₁ D := FD₁.ext (Ne.symm nID)
    have nrL : ∃ o, h₃.get? L = some o ∧ NoRec o := noRec_ns hn₃
    have nrD : ∃ o, h₃.get? D = some o ∧ NoRec o := noRec_list hD₃.isList
    have rp₄ : Rep (Mine.ext g₁ h₃ [It]) p v := (rp.mono sg₁).mono sg₄
    have rpc : RepC (Mine.ext g₁ h₃ [It]) ρ₁ p v := by
      induction p using PV.casesOn with
      | cell k => exact (show False from rp₄).elim
      | _ => exact rp₄
    have J := I₄.into FL₄ (s := { s₀ with heap := h₃, toks := tk + 1 }) (env := cenv) (ns := names) hn₃ ((hm0 mv₁ _ _).set hj rpc) ((hcel.mono (StaysIn.trans sg₁ sg₄) sp₁).set hj p)
    have K' : (C.inner cenv L names (Mine.ext g₁ h₃ [It]) ρ₁ h₃).Ok := K.inner h1 h2 h3 h4 h5 h6
    have ex : Ex (C.inner cenv L names (Mine.ext g₁ h₃ [It]) ρ₁ h₃) (notedBy (model PR C.W.w) C.A cenv fun e s' => R (.error e) s') o := fun he e s' sm x => by
      refine x_noted K' rfl x fun h' xt => hX he e _ sm ?_ fun h'' sb => XStT.foreign I₄ FL₄ nrL xt sb
      refine nn fun nG => ?_
      obtain ⟨g2, a0, kn, st, _⟩ := xt
      refine nG ?_
      exact ⟨_, ns_up hn₃ st.up fun q => by obtain ⟨p', hp', e'⟩ := List.mem_map.mp q; exact FL₄.c p' hp' e'⟩
    -- back to the outer state
    have back : ∀ g₅ ρ₅ σ₅ (s₅ : Shared) (acc' : List PV) (ws' : List Value), At C m g₅ ρ₅ σ₅ s₅ → (Mine.ext g₁ h₃ [It]).StaysIn g₅ → ρ₁ <+: ρ₅ → Foreign C g₅ ρ₅ D → Foreign C g₅ ρ₅ L → (∀ p ∈ ρ₅, p.2 ≠ It) → LList s₅.heap D ws'.toArray → Reps g₅ acc' ws' → acc'.length ≤ i + 1 → (∃ mv', s₅.heap.Ns L mv') →
        compL (ps.drop (i + 1)) (compG C.O names m0 n x ifs elt) σ₅ (fun ys σ => k (acc' ++ ys) σ) = o →
        ∃ n₂, n₂ < ps.length + 1 - i ∧ ∃ i g' ρ' σ' acc ws mv', n₂ = ps.length + 1 - i ∧ i ≤ ps.length ∧ compL (ps.drop i) (compG C.O names m0 n x ifs elt) σ' (fun ys σ => k (acc ++ ys) σ) = o ∧ At C m g' ρ' σ' s₅ ∧ St i s₅.heap ∧
          LList s₅.heap D ws.toArray ∧ Reps g' acc ws ∧ acc.length ≤ i ∧ Foreign C g' ρ' It ∧ Foreign C g' ρ' D ∧ Foreign C g' ρ' L ∧ s₅.heap.Ns L mv' ∧ g.StaysIn g' ∧ ρ <+: ρ' := by
      intro g₅ ρ₅ σ₅ s₅ acc' ws' I₅ sg₅ sp₅ FD₅ FL₅ cI hD₅ hr₅ ha₅ ⟨mv₅, hL₅⟩ hc₅
      have gI₅ := sg₅ _ _ gI
      refine nn fun nG => ?_
      obtain ⟨I₆, sg₆, rc₆⟩ := I₅.hide gI₅ itI.not (g₀ := g₁) I₁.kn (StaysIn.trans sg₄ sg₅) FI₁.g GI
      refine nG ?_
      have off : ∀ b o', g₅.get? b = some o' → NoRec o' ∨ (o'.cls = .type "range") → (g₅.hide It).get? b = some o' := fun b o' e nn => (Heap.hide_ne g₅ fun q => by
        rw [q, gI₅] at e; cases e
        rcases nn with nn | nn
        · exact itI.not.1 nn
        · exact itI.not.2 nn).trans e
      refine ⟨ps.length + 1 - (i + 1), by omega, i + 1, g₅.hide It, ρ₅, σ₅, acc', ws', mv₅, rfl, hlt, hc₅, I₆, ?_, hD₅, Reps.off off hr₅, ha₅, ⟨Heap.hide_self _ _, FI₁.L, cI, FI₁.f, FI₁.H⟩, FD₅.hide, FL₅.hide, hL₅, StaysIn.trans sg₁ sg₆, sp₁.trans sp₅⟩
      refine WW.frame _ _ _ st₃ fun b hb o e => ?_
      rcases W.fps b hb with q' | ⟨o', e'⟩
      · rw [q', hoI] at e; cases e
        rw [q']; exact I₅.keep _ _ gI₅
      · have e₁ := sg₁ _ _ e'
        have e₃ := I₃.keep _ _ e₁
        have : o = o' := by have e₃ : h₃.get? b = some o' := e₃; rw [e] at e₃; exact Option.some.inj e₃
        rw [this]
        exact I₅.keep _ _ (sg₅ _ _ (sg₄ _ _ e₁))
    have cellsI : ∀ {g₅ : Heap} {ρ₅ : List (Addr × Addr)} {σ₅ : List Cell} {s₅ : Shared} {m' : Loc}, At (C.inner cenv L names (Mine.ext g₁ h₃ [It]) ρ₁ h₃) m' g₅ ρ₅ σ₅ s₅ → (Mine.ext g₁ h₃ [It]).StaysIn g₅ → ∀ p ∈ ρ₅, p.2 ≠ It := by
      intro g₅ ρ₅ σ₅ s₅ m' J₅ sg₅ p hp q
      have := cell_g J₅ hp
      rw [q, sg₅ _ _ gI] at this; exact nsn this
    refine HI _ K' ifs _ σ₁ _ o hc ho _ ρ₁ _ _ _ J ex fun c σ₅ s₅ g₅ ρ₅ hk₅ J₅ sg₅ sp₅ => ?_
    induction c using Bool.casesOn with
    | false =>
      have hk₅ : compL (ps.drop (i + 1)) (compG C.O names m0 n x ifs elt) σ₅ (fun ys σ => k (acc ++ ys) σ) = o := hk₅
      skip
      refine nn fun nG => ?_
      obtain ⟨up, nm⟩ := inner_up I₄ FD₄ J₅
      obtain ⟨up', nm'⟩ := inner_up I₄ FL₄ J₅
      refine nG ?_
      exact back g₅ ρ₅ σ₅ s₅ acc ws (I₄.outof J₅ sg₅ sp₅) sg₅ sp₅ (FD₄.outof I₄ nrD J₅) (FL₄.outof I₄ nrL J₅) (cellsI J₅ sg₅) (llist_up hD₃ up nm) ((hr₁.mono sg₄).mono sg₅) (by exact Nat.le_succ_of_le ha₁) ⟨_, ns_up hn₃ up' nm'⟩ hk₅
    | true =>
      have hk₅ : evalE C.O names n elt _ σ₅ (fun y σ => noCell y (compL (ps.drop (i + 1)) (compG C.O names m0 n x ifs elt) σ fun ys σ => k (acc ++ (y :: ys)) σ)) = o := hk₅
      skip
      refine HE _ K' elt _ σ₅ _ o hk₅ ho g₅ ρ₅ s₅ _ _ J₅ ex fun y u σ₆ s₆ g₆ ρ₆ hk₆ J₆ ru sg₆ sp₆ => ?_
      refine nn fun nG => ?_
      obtain ⟨nc, hk₆⟩ := noCell_some hk₆ ho
      have ru := low ru nc
      have sg₆' := StaysIn.trans sg₅ sg₆
      have sp₆' := sp₅.trans sp₆
      obtain ⟨up, nm⟩ := inner_up I₄ FD₄ J₆
      obtain ⟨up', nm'⟩ := inner_up I₄ FL₄ J₆
      refine nG ?_
      have hD₆ := llist_up hD₃ up nm
      have FD₆ := FD₄.outof I₄ nrD J₆
      have FL₆ := FL₄.outof I₄ nrL J₆
      have I₆ := I₄.outof J₆ sg₆' sp₆'
      refine append_ok hD₆ (fun h₇ hD₇ sb₇ => ?_) (by simp; exact Nat.le_of_lt (Nat.lt_of_lt_of_le (Nat.lt_of_le_of_lt (Nat.le_trans (Nat.le_of_eq hlen) ha₁) hlt) wl))
      have hk₇ : compL (ps.drop (i + 1)) (compG C.O names m0 n x ifs elt) σ₆ (fun ys σ => k ((acc ++ [y]) ++ ys) σ) = o := by
        rw [← hk₆]
        congr 1
        funext ys σ
        rw [List.append_assoc]; rfl
      refine back g₆ ρ₆ σ₆ { s₆ with heap := h₇ } (acc ++ [y]) (ws ++ [u]) (I₆.foreign FD₆ sb₇) sg₆' sp₆' FD₆ FL₆ (cellsI J₆ sg₆') (by simpa using hD₇) (((hr₁.mono sg₄).mono sg₆').append (by simp only [Reps]; exact ⟨u, [], rfl, ru, rfl⟩)) (by simp; exact ha₁) ⟨_, (ns_up hn₃ up' nm').sameBut sb₇ (Ne.symm nDL)⟩ hk₇
  · have hi' : i = ps.length := by exact Nat.le_antisymm (chk [_,_] (.h 2 (.v 0) (.v 1) (.h 1 (.v 1) (.v 0) .z)) 1 (.v 0) (.v 1) rfl hi (Nat.le_of_not_lt hlt)) (chk [_,_] (.h 1 (.v 0) (.v 1) (.h 2 (.v 1) (.v 0) .z)) 1 (.v 1) (.v 0) rfl hi (Nat.le_of_not_lt hlt))
    subst hi'
    rw [List.drop_length] at hc
    have hc : k (acc ++ []) σ₁ = o := hc
    rw [List.append_nil] at hc
    refine WW.done s₀ _ _ st₁ fun h' tk hk => ?_
    have hk : ∀ b o, b ≠ It → s₀.heap.get? b = some o → h'.get? b = some o := fun b o hb e => hk b o (by simpa using hb) e
    have I₂ : At C m g₁ ρ₁ σ₁ { s₀ with heap := h', toks := tk } := I₁.extBut FI₁ hk
    have hD₂ : LList h' D ws.toArray := by obtain ⟨a, b, c⟩ := hD₁; exact ⟨a, b, hk _ _ (Ne.symm nID) c⟩
    have hL₂ : h'.Ns L mv₁ := by obtain ⟨o, es, ep, e, r⟩ := hL₁; exact ⟨o, es, ep, hk _ _ (Ne.symm nIL) e, r⟩
    exact hR acc ws σ₁ g₁ ρ₁ { s₀ with heap := h', toks := tk } mv₁ hc I₂ FD₁ FL₁ hD₂ hr₁ (by exact Nat.le_trans (Nat.le_trans (Nat.le_of_eq hlen) ha₁) wl) hL₂ sg₁ sp₁
end
end Mine
end
section
set_option maxRecDepth 100000
namespace Mine
open PySem PySem.W PyProof.Rows PySem.Spec PySem.Calls PySem.SeqAt

noncomputable def SO (n : Nat) (C : Cx) : Prop := ∀ e m σ k o, optE C.O C.ns n e m σ k = o → o ≠ .stuck → ∀ g ρ s Q E, At C m g ρ σ s → Ex C E o → KP C m g ρ k o Q → wpAny C.W.M C.A (evalPart e C.env) Q E s
noncomputable def SA (n : Nat) (C : Cx) : Prop := ∀ es m σ k o, argsE C.O C.ns n es m σ k = o → o ≠ .stuck → ∀ g ρ s pos Q E, At C m g ρ σ s → Ex C E o →
  (∀ ps vs σ' s' g' ρ', k ps σ' = o → At C m g' ρ' σ' s' → RepsC g' ρ' ps vs → ps.length = es.length → g.StaysIn g' → ρ <+: ρ' → Q vs s') → wpAny C.W.M C.A (spliced (backTo pos (starEach es C.env))) Q E s
noncomputable def SB (n : Nat) (C : Cx) : Prop := ∀ op es m σ k o, boolV C.O C.ns n op es m σ k = o → o ≠ .stuck → ∀ g ρ s pos Q E, At C m g ρ σ s → Ex C E o → KP C m g ρ k o Q → wpAny C.W.M C.A (boolOp pos op (evalEach es C.env)) Q E s
noncomputable def ST (n : Nat) (C : Cx) : Prop := ∀ e m σ k o, testE C.O C.ns n e m σ k = o → o ≠ .stuck → ∀ g ρ s Q E, At C m g ρ σ s → Ex C E o → KPB C m g ρ k o Q → wpAny C.W.M C.A (PySem.isTrue e C.env (eval e C.env)) Q E s
noncomputable def SBT (n : Nat) (C : Cx) : Prop := ∀ op es m σ k o, boolT C.O C.ns n op es m σ k = o → o ≠ .stuck → ∀ g ρ s Q E, At C m g ρ σ s → Ex C E o → KPB C m g ρ k o Q → wpAny C.W.M C.A (allTrue op es C.env) Q E s
noncomputable def SC (n : Nat) (C : Cx) : Prop := ∀ a ops rs m σ k o, chainE C.O C.ns n a ops rs m σ k = o → o ≠ .stuck → ∀ g ρ s pos va E, At C m g ρ σ s → Ex C E o → RepC g ρ a va →
  (∀ Q, KPB C m g ρ k o (fun c => Q (.bool c)) → wpAny C.W.M C.A (compareChain pos va ops (markedEach ops rs (evalEach rs C.env))) Q E s) ∧
  (∀ Q, KPB C m g ρ k o Q → wpAny C.W.M C.A (testChain pos va ops (markedEach ops rs (evalEach rs C.env))) Q E s)
structure Snd (n : Nat) : Prop where
  e : ∀ C, C.Ok → SE n C
  o : ∀ C, C.Ok → SO n C
  a : ∀ C, C.Ok → SA n C
  b : ∀ C, C.Ok → SB n C
  t : ∀ C, C.Ok → ST n C
  bt : ∀ C, C.Ok → SBT n C
  c : ∀ C, C.Ok → SC n C
  i : ∀ C, C.Ok → SI n C

theorem snd_zero : Snd 0 where
  e := fun C ζ e m σ k o h ho => (ho h.symm).elim
  o := fun C ζ e m σ k o h ho => (ho h.symm).elim
  a := fun C ζ e m σ k o h ho => (ho h.symm).elim
  b := fun C ζ op e m σ k o h ho => (ho h.symm).elim
  t := fun C ζ e m σ k o h ho => (ho h.symm).elim
  bt := fun C ζ op e m σ k o h ho => (ho h.symm).elim
  c := fun C ζ a ops rs m σ k o h ho => (ho h.symm).elim
  i := fun C ζ e m σ k o h ho => (ho h.symm).elim

section
variable {C : Cx} {m : Loc} {g : Heap} {ρ : List (Addr × Addr)} {σ : List Cell} {s : Shared} {E : Value → Shared → Prop} {A : Around} {n : Nat}

theorem KP.fut {g' : Heap} {ρ' : List (Addr × Addr)} {k : KV} {o : Out} {Q : Value → Shared → Prop} (h : KP C m g ρ k o Q) (sg : g.StaysIn g') (sp : ρ <+: ρ') : KP C m g' ρ' k o Q :=
  fun p v σ' s' g₂ ρ₂ e I r a b => h p v σ' s' g₂ ρ₂ e I r (StaysIn.trans sg a) (sp.trans b)
theorem KPB.fut {g' : Heap} {ρ' : List (Addr × Addr)} {k : KB} {o : Out} {Q : Bool → Shared → Prop} (h : KPB C m g ρ k o Q) (sg : g.StaysIn g') (sp : ρ <+: ρ') : KPB C m g' ρ' k o Q :=
  fun c σ' s' g₂ ρ₂ e I a b => h c σ' s' g₂ ρ₂ e I (StaysIn.trans sg a) (sp.trans b)
theorem KP.now {k : KV} {o : Out} {Q : Value → Shared → Prop} (h : KP C m g ρ k o Q) {p : PV} {v : Value} {σ' : List Cell} {s' : Shared} (e : k p σ' = o) (I : At C m g ρ σ' s') (r : RepC g ρ p v) : Q v s' := h p v σ' s' g ρ e I r (StaysIn.refl g) (List.prefix_refl ρ)
theorem KPB.now {k : KB} {o : Out} {Q : Bool → Shared → Prop} (h : KPB C m g ρ k o Q) {c : Bool} {σ' : List Cell} {s' : Shared} (e : k c σ' = o) (I : At C m g ρ σ' s') : Q c s' := h c σ' s' g ρ e I (StaysIn.refl g) (List.prefix_refl ρ)

theorem up_rep {p : PV} {v : Value} (r : Rep g p v) : RepC g ρ p v := by
  induction p using PV.casesOn with
  | cell k => exact (show False from r).elim
  | _ => exact r

theorem snd_i (S : Snd n) (C : Cx) (K : C.Ok) : SI (n + 1) C := by
  intro es m σ k o h ho g ρ s Q E I X q
  induction es using List.casesOn with
  | nil => exact wpAny_pure (q.now h I)
  | cons e es =>
    unfold testsOf
    rw [List.forIn_cons]
    simp only [if_true]
    refine wpAny_bind (wpAny_bind (S.t C K e m σ _ o h ho g ρ s _ E I X fun c σ' s' g' ρ' e' I' sg sp => wpAny_pure ?_))
    induction c using Bool.casesOn with
    | true => exact S.i C K es m σ' k o e' ho g' ρ' s' Q E I' X (q.fut sg sp)
    | false =>
      have : ∀ l : List PySem.Expr, (forIn l false fun c r => if r = true then do let ok ← PySem.isTrue c C.env (eval c C.env); pure (ForInStep.yield ok) else pure (ForInStep.yield r)) = (pure false : Sem Bool) := by
        intro l
        induction l with
        | nil => rfl
        | cons x r ih =>
          rw [List.forIn_cons]
          simp only [Bool.false_eq_true, if_false, pure_bind]
          exact ih
      dsimp only
      rw [this]
      exact wpAny_pure (q _ _ _ _ _ e' I' sg sp)

theorem snd_a (S : Snd n) (C : Cx) (K : C.Ok) : SA (n + 1) C := by
  intro es m σ k o h ho g ρ s pos Q E I X q
  induction es using List.casesOn with
  | nil => exact wpAny_pure (q [] [] σ s g ρ h I rfl rfl (StaysIn.refl g) (List.prefix_refl ρ))
  | cons e es =>
    have hs : starEach (e :: es) C.env = (false, eval e C.env) :: starEach es C.env := by
      induction e using PySem.Expr.casesOn with
      | Starred x p =>
        exfalso
        have h : evalE C.O C.ns n (.Starred x p) m σ _ = o := h
        induction n using Nat.casesOn with
        | zero => exact ho h.symm
        | succ n => exact ho h.symm
      | _ => rfl
    rw [hs]
    show wpAny C.W.M C.A (do
      let v ← eval e C.env
      let here ← pure [v]
      return here ++ (← holding here (spliced (backTo pos (starEach es C.env))))) Q E s
    refine wpAny_bind (S.e C K e m σ _ o h ho g ρ s _ E I X fun p v σ' s' g' ρ' e' I' r sg sp => ?_)
    refine wpAny_bind (wpAny_pure (wpAny_bind (wpAny_holding ?_)))
    refine S.a C K es m σ' _ o e' ho g' ρ' s' pos _ E I' X fun ps vs σ₂ s₂ g₂ ρ₂ e₂ I₂ rs hl sg₂ sp₂ => wpAny_pure ?_
    refine q (p :: ps) (v :: vs) σ₂ s₂ g₂ ρ₂ e₂ I₂ ?_ (by simp [hl]) (StaysIn.trans sg sg₂) (sp.trans sp₂)
    simp only [RepsC]
    exact ⟨v, vs, rfl, r.mono sg₂ sp₂, rs⟩

theorem snd_o (S : Snd n) (C : Cx) (K : C.Ok) : SO (n + 1) C := by
  intro e m σ k o h ho g ρ s Q E I X q
  induction e using Option.casesOn with
  | none => exact wpAny_pure (q.now h I (show RepC g ρ .none .none from rfl))
  | some e => exact S.e C K e m σ k o h ho g ρ s Q E I X q

theorem snd_bt (S : Snd n) (C : Cx) (K : C.Ok) : SBT (n + 1) C := by
  intro op es m σ k o h ho g ρ s Q E I X q
  induction es using List.casesOn with
  | nil =>
    skip
    cases op <;> exact wpAny_pure (q.now h I)
  | cons e es =>
    skip
    refine wpAny_bind (S.t C K e m σ _ o h ho g ρ s _ E I X fun c σ' s' g' ρ' e' I' sg sp => ?_)
    cases op <;> cases c
    · exact wpAny_pure (q _ _ _ _ _ e' I' sg sp)
    · exact S.bt C K .And es m σ' k o e' ho g' ρ' s' Q E I' X (q.fut sg sp)
    · exact S.bt C K .Or es m σ' k o e' ho g' ρ' s' Q E I' X (q.fut sg sp)
    · exact wpAny_pure (q _ _ _ _ _ e' I' sg sp)

theorem snd_b (S : Snd n) (C : Cx) (K : C.Ok) : SB (n + 1) C := by
  intro op es m σ k o h ho g ρ s pos Q E I X q
  induction es using List.casesOn with
  | nil => exact absurd h.symm ho
  | cons e es =>
    induction es using List.casesOn with
    | nil => exact S.e C K e m σ k o h ho g ρ s Q E I X q
    | cons e2 es =>
      show wpAny C.W.M C.A (do
        let v ← eval e C.env
        standAt pos
        let t ← holding [v] (truthy v)
        match op, t with
        | .And, false | .Or, true => pure v
        | _, _ => boolOp pos op (evalEach (e2 :: es) C.env)) Q E s
      refine wpAny_bind (S.e C K e m σ _ o h ho g ρ s _ E I X fun p v σ' s' g' ρ' e' I' r sg sp => wpAny_bind (wpAny_standAt (wpAny_bind (wpAny_holding ?_))))
      induction p using PV.casesOn with
      | bool c =>
        obtain rfl := (show v = .bool c from r)
        refine wpAny_truthy_bool ?_
        cases op <;> cases c
        · exact wpAny_pure (q _ _ _ _ _ _ e' I' (show RepC g' ρ' (.bool false) _ from rfl) sg sp)
        · exact S.b C K .And _ m σ' k o e' ho g' ρ' s' pos Q E I' X (q.fut sg sp)
        · exact S.b C K .Or _ m σ' k o e' ho g' ρ' s' pos Q E I' X (q.fut sg sp)
        · exact wpAny_pure (q _ _ _ _ _ _ e' I' (show RepC g' ρ' (.bool true) _ from rfl) sg sp)
      | _ => exact absurd e'.symm ho

theorem snd_c (S : Snd n) (C : Cx) (K : C.Ok) : SC (n + 1) C := by
  intro a ops rs m σ k o h ho g ρ s pos va E I X ra
  have un : C.A.units + 20 < cLine := by have := K.un; exact chk [_,_,_] (.h 1 (.a (.a (.a (.v 0) (.m 16 (.v 2))) (.n 64)) (.n 1)) (.v 1) .z) 1 (.a (.a (.v 0) (.n 20)) (.n 1)) (.v 1) rfl this
  have notSet : ∀ {r : PySem.Expr} {K' : KV} {op : CmpOp} {t : Sem Value}, evalE C.O C.ns n r m σ K' = o → markedBehindIn op r t = t := by
    intro r K' op t h
    refine markedBehindIn_of_false ?_
    induction r using PySem.Expr.casesOn with
    | Set a b c =>
      exfalso
      induction n using Nat.casesOn with
      | zero => exact ho h.symm
      | succ n => exact ho h.symm
    | _ => rfl
  rcases ops with _ | ⟨op, _ | ⟨o2, ot⟩⟩
  · exact (ho h.symm).elim
  · rcases rs with _ | ⟨r, _ | ⟨r2, rt⟩⟩
    · exact (ho h.symm).elim
    · have hm : markedEach [op] [r] (evalEach [r] C.env) = [eval r C.env] := by
        show [markedBehindIn op r (eval r C.env)] = _
        rw [notSet h]
      rw [hm]
      constructor
      · intro Q q
        show wpAny C.W.M C.A (do
          let rv ← holding [va] (eval r C.env)
          standAt pos
          operate [va, rv] (compareOp op va rv)) Q E s
        refine wpAny_bind (wpAny_holding (S.e C K r m σ _ o h ho g ρ s _ E I X fun p v σ' s' g' ρ' e' I' r sg sp => wpAny_bind (wpAny_standAt (wpAny_operating ?_))))
        refine nn fun nG => ?_
        obtain ⟨c, hc, e'⟩ := opt_some e' ho
        refine nG ?_
        exact cmp_ok I' hc (ra.mono sg sp) r un K.hand fun h' tk st => q c σ' _ g' ρ' e' (I'.grown st) sg sp
      · intro Q q
        show wpAny C.W.M C.A (do
          let rv ← holding [va] (eval r C.env)
          standAt pos
          let c ← operate [va, rv] (compareOp op va rv)
          holding [c] (truthy c)) Q E s
        refine wpAny_bind (wpAny_holding (S.e C K r m σ _ o h ho g ρ s _ E I X fun p v σ' s' g' ρ' e' I' r sg sp => wpAny_bind (wpAny_standAt (wpAny_bind (wpAny_operating ?_)))))
        refine nn fun nG => ?_
        obtain ⟨c, hc, e'⟩ := opt_some e' ho
        refine nG ?_
        exact cmp_ok I' hc (ra.mono sg sp) r un K.hand fun h' tk st => wpAny_holding (wpAny_truthy_bool (q c σ' _ g' ρ' e' (I'.grown st) sg sp))
    · exact (ho h.symm).elim
  · rcases rs with _ | ⟨r, _ | ⟨r2, rt⟩⟩
    · exact (ho h.symm).elim
    · exact (ho h.symm).elim
    · have hm : markedEach (op :: o2 :: ot) (r :: r2 :: rt) (evalEach (r :: r2 :: rt) C.env) = eval r C.env :: markedEach (o2 :: ot) (r2 :: rt) (evalEach (r2 :: rt) C.env) := rfl
      skip
      constructor
      · intro Q q
        show wpAny C.W.M C.A (do
          let rv ← holding [va] (eval r C.env)
          standAt pos
          let c ← holding [va, rv] (compareOp op va rv)
          release [va, rv] [c]
          if ← holding [c, rv] (truthy c) then compareChain pos rv (o2 :: ot) (markedEach (o2 :: ot) (r2 :: rt) (evalEach (r2 :: rt) C.env)) else pure c) Q E s
        refine wpAny_bind (wpAny_holding (S.e C K r m σ _ o h ho g ρ s _ E I X fun p v σ' s' g' ρ' e' I' r sg sp => wpAny_bind (wpAny_standAt (wpAny_bind (wpAny_holding ?_)))))
        refine nn fun nG => ?_
        obtain ⟨c, hc, e'⟩ := opt_some e' ho
        refine nG ?_
        refine cmp_ok I' hc (ra.mono sg sp) r un K.hand fun h' tk st => wpAny_bind (wpAny_release (wpAny_bind (wpAny_holding (wpAny_truthy_bool ?_))))
        have I₂ : At C m g' ρ' σ' { s' with heap := h', toks := tk } := I'.grown st
        induction c using Bool.casesOn with
        | true => exact (S.c C K p _ _ m σ' k o e' ho g' ρ' _ pos v E I₂ X r).1 Q (KPB.fut (g := g) (ρ := ρ) q sg sp)
        | false => exact wpAny_pure (q false σ' _ g' ρ' e' I₂ sg sp)
      · intro Q q
        show wpAny C.W.M C.A (do
          let rv ← holding [va] (eval r C.env)
          standAt pos
          let c ← holding [va, rv] (compareOp op va rv)
          release [va, rv] [c]
          if ← holding [c, rv] (truthy c) then testChain pos rv (o2 :: ot) (markedEach (o2 :: ot) (r2 :: rt) (evalEach (r2 :: rt) C.env)) else pure false) Q E s
        refine wpAny_bind (wpAny_holding (S.e C K r m σ _ o h ho g ρ s _ E I X fun p v σ' s' g' ρ' e' I' r sg sp => wpAny_bind (wpAny_standAt (wpAny_bind (wpAny_holding ?_)))))
        refine nn fun nG => ?_
        obtain ⟨c, hc, e'⟩ := opt_some e' ho
        refine nG ?_
        refine cmp_ok I' hc (ra.mono sg sp) r un K.hand fun h' tk st => wpAny_bind (wpAny_release (wpAny_bind (wpAny_holding (wpAny_truthy_bool ?_))))
        have I₂ : At C m g' ρ' σ' { s' with heap := h', toks := tk } := I'.grown st
        induction c using Bool.casesOn with
        | true => exact (S.c C K p _ _ m σ' k o e' ho g' ρ' _ pos v E I₂ X r).2 Q (KPB.fut (g := g) (ρ := ρ) q sg sp)
        | false => exact wpAny_pure (q false σ' _ g' ρ' e' I₂ sg sp)

theorem snd_t (S : Snd n) (C : Cx) (K : C.Ok) : ST (n + 1) C := by
  intro e m σ k o h ho g ρ s Q E I X q
  have plain : ∀ {e : PySem.Expr}, evalE C.O C.ns n e m σ (fun v σ => match v with
      | .bool c => k c σ
      | _ => .stuck) = o → isTrue e C.env (eval e C.env) = (do let v ← eval e C.env; standAt e.pos; holding [v] (truthy v)) → wpAny C.W.M C.A (isTrue e C.env (eval e C.env)) Q E s := fun h he => by
    refine isTrue_plain (S.e C K _ m σ _ o h ho g ρ s _ E I X fun p v σ' s' g' ρ' e' I' r sg sp => ?_) he
    induction p using PV.casesOn with
    | bool c =>
      obtain rfl := (show v = .bool c from r)
      exact wpAny_truthy_bool (q _ _ _ _ _ e' I' sg sp)
    | _ => exact (ho e'.symm).elim
  induction e using PySem.Expr.casesOn with
  | UnaryOp op x p =>
    induction op using PySem.UnaryOp.casesOn with
    | Not => exact isTrue_not (S.t C K _ m σ _ o h ho g ρ s _ E I X fun c σ' s' g' ρ' e' I' sg sp => q _ _ _ _ _ e' I' sg sp)
    | _ => exact plain h rfl
  | BoolOp a b c =>
    skip
    exact S.bt C K _ _ m σ k o h ho g ρ s Q E I X q
  | IfExp a b c d =>
    refine isTrue_IfExp (S.t C K _ m σ _ o h ho g ρ s _ E I X fun c σ' s' g' ρ' e' I' sg sp => ?_)
    induction c using Bool.casesOn with
    | true => skip; exact S.t C K _ m σ' k o e' ho g' ρ' s' Q E I' X (q.fut sg sp)
    | false => skip; exact S.t C K _ m σ' k o e' ho g' ρ' s' Q E I' X (q.fut sg sp)
  | Compare a b c d =>
    skip
    refine wpAny_bind (S.e C K _ m σ _ o h ho g ρ s _ E I X fun p v σ' s' g' ρ' e' I' r sg sp => ?_)
    exact (S.c C K p _ _ m σ' k o e' ho g' ρ' s' _ v E I' X r).2 Q (q.fut sg sp)
  | _ => exact plain h rfl
end
end Mine
end
section
set_option maxRecDepth 100000
namespace Mine
open PySem PySem.W PyProof.Rows PySem.Spec PySem.Calls PySem.SeqAt

theorem low_cells {p : PV} {g : Heap} {ρ : List (Addr × Addr)} {v : Value} (I : ∀ k, p ≠ .cell k) (r : RepC g ρ p v) : Rep g p v := low r I
theorem binop_cells {op : Operator} {a b : PV} {k : PV → Out} {o : Out} (h : binop op a b k = o) (ho : o ≠ .stuck) : (∀ j, a ≠ .cell j) ∧ (∀ j, b ≠ .cell j) := by
  have hi : ∀ {f : Int → Int → Out}, ii a b f = o → (∀ j, a ≠ .cell j) ∧ (∀ j, b ≠ .cell j) := fun h => by
    obtain ⟨x, y, rfl, rfl, _⟩ := ii_some h ho
    exact ⟨fun j q => ((PV.noConfusion q)), fun j q => ((PV.noConfusion q))⟩
  induction op using PySem.Operator.casesOn with
  | Add =>
    refine ⟨fun j q => ho (by subst q; exact h.symm), fun j q => ho ?_⟩
    subst q
    induction a using PV.casesOn <;> exact h.symm
  | Sub => exact hi h
  | Mod => exact hi h
  | Mult => exact hi h
  | FloorDiv => exact hi h
  | Pow => exact hi h
  | _ => exact (ho h.symm).elim

theorem method_call {C : Cx} {o : PySem.Expr} {name : Str} {ap p : Pos} {args : List PySem.Expr} {env : Env} {A : Around} {E : Value → Shared → Prop} {s : Shared} {Q : Value → Shared → Prop} (hb : plainB o = o) (hl : Nat.beq ap.endLine p.line = true) (hn : Nat.blt args.length 20 = true) (hs : noStars args = true)
    (h : wpAny C.W.M A (eval o env) (fun ov s₁ => ∀ pl, wpAny C.W.M A (getMethod ov name pl) (fun r s₂ => wpAny C.W.M A (callWith p r.1 r.2 (backTo p (starEach args env)) []) Q E s₂) E s₁) E s) :
    wpAny C.W.M A (eval (.Call (.Attribute o name ap) args [] p) env) Q E s := by
  have star : ∀ {args : List PySem.Expr}, noStars args = true → (backTo p (starEach args env)).all (fun x => !x.1) = true := by
    intro args hs
    induction args with
    | nil => rfl
    | cons e r ih =>
      have h2 : starEach (e :: r) env = (false, eval e env) :: starEach r env ∧ noStars r = true := by
        induction e using PySem.Expr.casesOn with
        | Starred x p => exact nft hs
        | _ => exact ⟨rfl, hs⟩
      rw [h2.1]
      show (true && (backTo p (starEach r env)).all (fun x => !x.1)) = true
      rw [ih h2.2]; rfl
  have hlen : args.length < 20 := by simpa [Nat.blt_eq] using hn
  have hform : methodCallForm (args.length + ([] : List Keyword).length) (backTo p (starEach args env)) (backToKw p (keywordEach [] env)) = true := by
    unfold methodCallForm
    rw [star hs]
    show (true && true && decide (args.length + 0 + (if (List.isEmpty (backToKw p (keywordEach [] env))) = true then 0 else 1) < 30)) = true
    rw [show (if (List.isEmpty (backToKw p (keywordEach [] env))) = true then 0 else 1) = 0 from rfl]
    simp; exact Nat.lt_trans hlen (by decide)
  have hpos : methodCallPos true o env ap p = pure p := by
    unfold methodCallPos
    have : (ap.endLine == p.line) = true := by rw [beq_iff_eq]; exact Nat.eq_of_beq_eq_true hl
    simp [this]
  rw [arm_eval_Call, base_plain hb]
  refine wpAny_bind (wpAny_mono h (fun ov s₁ h₁ => wpAny_bind (wpAny_standAt ?_)) fun ζ ζ e => e)
  unfold methodCall
  rw [hform]
  refine wpAny_bind (wpAny_holding (wpAny_mono (h₁ _) (fun r s₂ h₂ => wpAny_bind (wpAny_of_eq hpos h₂)) fun ζ ζ e => e))

theorem attr_eval {C : Cx} {o : PySem.Expr} {name : Str} {p : Pos} {env : Env} {A : Around} {E : Value → Shared → Prop} {s : Shared} {Q : Value → Shared → Prop} (hb : plainB o = o)
    (h : wpAny C.W.M A (eval o env) (fun ov s₁ => wpAny C.W.M A (getAttr ov name true) Q E s₁) E s) : wpAny C.W.M A (eval (.Attribute o name p) env) Q E s := by
  rw [arm_eval_Attribute, base_plain hb]
  exact wpAny_bind (wpAny_mono h (fun ov s₁ h₁ => wpAny_bind (wpAny_standAt (wpAny_bind (wpAny_holding (wpAny_mono h₁ (fun r s₂ h₂ => wpAny_bind (wpAny_letTemporaryGo (wpAny_pure h₂))) fun ζ ζ e => e))))) fun ζ ζ e => e)

theorem plainB_of {C : Cx} {n : Nat} {o : PySem.Expr} {m : Loc} {σ : List Cell} {k : KV} {r : Out} (h : evalE C.O C.ns n (plainB o) m σ k = r) (hr : r ≠ .stuck) : plainB o = o := by
  induction o using PySem.Expr.casesOn with
  | Call f args kws p =>
    induction args using List.casesOn with
    | nil =>
      induction kws using List.casesOn with
      | nil =>
        induction f using PySem.Expr.casesOn with
        | Name x px =>
          exfalso
          have h : evalE C.O C.ns n (.Starred (.Call (.Name x px) [] [] p) p) m σ k = r := h
          induction n using Nat.casesOn with
          | zero => exact hr h.symm
          | succ n => exact hr h.symm
        | _ => rfl
      | cons _ _ => rfl
    | cons _ _ => rfl
  | _ => rfl

section
variable {C : Cx} {m : Loc} {g : Heap} {ρ : List (Addr × Addr)} {σ : List Cell} {s : Shared} {E : Value → Shared → Prop} {A : Around} {n : Nat}

theorem isiA_some {id : String} {args : List PV} {c d : Addr} (h : isiA id args = some (c, d)) : id = "isinstance" ∧ ∃ ns vs, args = [.obj c ns vs, .raw (.ref d)] := by
  rcases args with _ | ⟨p, _ | ⟨q, _ | ⟨_, _⟩⟩⟩
  · exact nns h
  · exact nns h
  · induction p using PV.casesOn with
    | obj c' ns vs =>
      induction q using PV.casesOn with
      | raw v =>
        induction v using PySem.Value.casesOn with
        | ref d' =>
          by_cases hi : id = "isinstance"
          · have h : (match decide (id = "isinstance") with
              | true => some (c', d')
              | false => none) = some (c, d) := h
            rw [decide_eq_true hi] at h
            injection h with h
            injection h with h1 h2
            subst h1 h2
            exact ⟨hi, ns, vs, rfl⟩
          · have h : (match decide (id = "isinstance") with
              | true => some (c', d')
              | false => none) = some (c, d) := h
            rw [decide_eq_false hi] at h
            exact nns h
        | _ => exact nns h
      | _ => exact nns h
    | _ => exact nns h
  · exact nns h
/- a call of a value -/
theorem callF_ok (K : C.Ok) (I : At C m g ρ σ s) {f : PV} {v : Value} {ps : List PV} {vs : List Value} {k : KV} {o : Out} (h : callF C.O σ f ps k = o) (ho : o ≠ .stuck) (r : RepC g ρ f v) (ra : RepsC g ρ ps vs) (X : Ex C E o) :
    Keeps C.W v ∧ ∀ Q, KP C m g ρ k o Q → wpAny C.W.M C.A (call v vs) Q E s := by
  have rdy := I.ready K
  induction f using PV.casesOn with
  | raw f =>
    induction f using PySem.Value.casesOn with
    | ref a =>
      obtain rfl := (show v = .ref a from r)
      obtain ⟨nx, h⟩ := br_stuck h ho
      have plain : br (noCells ps) (C.O.pf a ps fun v fr => retK σ v fr k) .stuck = o → Keeps C.W (.ref a) ∧ ∀ Q, KP C m g ρ k o Q → wpAny C.W.M C.A (call (.ref a) vs) Q E s := fun h => by
        refine nn fun nG => ?_
        obtain ⟨nc, h⟩ := br_stuck h ho
        refine nG ?_
        refine ⟨keeps_K (K.orc.pfk _ _ _ _ h ho), fun Q hq => ?_⟩
        refine K.orc.pf _ _ _ _ h ho C.envs C.A g s vs Q E rdy (lows ra nc) (fun p' v' fr g' s' hk st kn kp rs sm => ?_) fun hexc e g' a0 s' st kn fl sm => ?_
        · exact I.back nx st kn kp sm (.inl ⟨rfl, rfl⟩) rs hk fun p'' σ'' ρ' hk' I' r' hp => hq _ _ _ _ _ _ hk' I' r' st.gg hp
        · refine X hexc e s' (I.sm.same sm) ⟨g', a0, kn, ?_, fl.1, fl.2.1, fl.2.2.1, .inr (.inl fl.2.2.2)⟩
          refine nn fun nG => ?_
          obtain ⟨mv, II, l⟩ := I
          refine nG ?_
          exact II.st.trans st fun b hb => nim hb
      induction ps using List.casesOn with
      | nil => exact plain h
      | cons p0 rest =>
        induction p0 using PV.casesOn with
        | cell j =>
          refine nn fun nG => ?_
          obtain ⟨v, us, rfl, rv, ra⟩ := ra
          refine nG ?_
          have onC : ∀ {c0 : Cell}, σ[j]? = some c0 → c0 ≠ .exc → br (noCells rest) (C.O.mf a c0 rest fun v c' fr => retK (σ.set j c') v fr k) .stuck = o → Keeps C.W (.ref a) ∧ ∀ Q, KP C m g ρ k o Q → wpAny C.W.M C.A (call (.ref a) (v :: us)) Q E s := fun {c0} e hx h => by
            obtain ⟨nc, h⟩ := br_stuck h ho
            obtain ⟨q, hq', e', hca⟩ := cell_at I rv e
            obtain rfl := e'
            refine ⟨keeps_K (K.orc.mfk _ _ _ _ _ h ho), fun Q hq => ?_⟩
            refine K.orc.mf _ _ _ _ _ h ho C.envs C.A g s q.1 q.2 us Q E rdy hca (cell_g I (List.mem_of_getElem? hq')) hx (lows ra nc) (fun p' v' c' fr g' s' hk st kn kp ca rs ne sm => ?_) fun hexc e g' a0 s' st kn fl sm => ?_
            · exact I.back nx st kn kp sm (.inr ⟨j, q, c', hq', rfl, rfl, ca⟩) rs hk fun p'' σ'' ρ' hk' I' r' hp => hq _ _ _ _ _ _ hk' I' r' st.gg hp
            · refine X hexc e s' (I.sm.same sm) ⟨g', a0, kn, ?_, fl.1, fl.2.1, fl.2.2.1, .inr (.inl fl.2.2.2)⟩
              obtain ⟨mv, II, l⟩ := I
              exact II.st.trans st fun b hb => by rw [List.mem_singleton.mp hb]; exact II.cH q (List.mem_of_getElem? hq')
          have h : (match σ[j]? with
            | some (.inst c ns vs) => br (noCells rest) (C.O.mf a (.inst c ns vs) rest fun v c' fr => retK (σ.set j c') v fr k) .stuck
            | some (.list vs) => br (noCells rest) (C.O.mf a (.list vs) rest fun v c' fr => retK (σ.set j c') v fr k) .stuck
            | _ => .stuck) = o := h
          generalize e : σ[j]? = c0 at h
          induction c0 using Option.casesOn with
          | none => exact (ho h.symm).elim
          | some c0 =>
            induction c0 using Cell.casesOn with
            | exc => exact (ho h.symm).elim
            | list vs => exact onC e (fun q => Cell.noConfusion q) h
            | inst c ns vs => exact onC e (fun q => Cell.noConfusion q) h
        | _ => exact plain h
    | builtin id =>
      obtain rfl := (show v = .builtin id from r)
      refine ⟨keeps_machine (noRefB _), fun Q hq => ?_⟩
      have h : (match isiA id ps with
        | some (c, d) => opt (C.O.isi c d) fun b => k (.bool b) σ
        | .none => callB σ id ps fun v => k v σ) = o := h
      generalize e : isiA id ps = c0 at h
      induction c0 using Option.casesOn with
      | none => exact callB_ok I h ho ra fun p' v' tk e r' => hq.now e (I.toks tk) (up_rep r')
      | some cd =>
        obtain ⟨c, d⟩ := cd
        obtain ⟨rfl, ns, ws, rfl⟩ := isiA_some e
        obtain ⟨u1, us, rfl, r1, u2, us2, rfl, r2, rfl⟩ := ra
        obtain rfl := (show u2 = .ref d from r2)
        refine nn fun nG => ?_
        obtain ⟨b, hb, h⟩ := opt_some h ho
        refine nG ?_
        exact isi_ok K I hb (show Rep g (.obj c ns ws) u1 from r1) fun tk => hq.now h (I.toks tk) (show RepC g ρ (.bool b) _ from rfl)
    | type id =>
      obtain rfl := (show v = .type id from r)
      have h : callT σ id ps (fun v => k v σ) = o := h
      refine ⟨keeps_machine (fun a q => Value.noConfusion q), fun Q hq => ?_⟩
      exact callT_ok K.hand I h ho ra fun p' v' g' s' e I' sg r' => hq _ _ _ _ _ _ e I' (up_rep r') sg (List.prefix_refl ρ)
    | _ => exact (ho h.symm).elim
  | _ => exact (ho h.symm).elim

theorem name_ok (K : C.Ok) (I : At C m g ρ σ s) {x : Str} {p : Pos} {k : KV} {o : Out} (ho : o ≠ .stuck) (h : (match seq x (PySem.Str.ofString "__debug__") with
      | true => .stuck
      | false => match slot x C.ns 0 with
        | some (i, .local) => match m[i]? with
          | some (some v) => k v σ
          | _ => .stuck
        | some (_, .globalImplicit) => opt (C.O.glob x) fun v => k v σ
        | some (i, .cell) => match m[i]? with
          | some (some v) => k v σ
          | _ => .stuck
        | _ => .stuck) = o) {Q : Value → Shared → Prop} (hq : KP C m g ρ k o Q) : wpAny C.W.M C.A (eval (.Name x p) C.env) Q E s := by
  generalize hd : seq x (PySem.Str.ofString "__debug__") = c0 at h
  induction c0 using Bool.casesOn with
  | true => exact (ho h.symm).elim
  | false =>
    have hd : (x == (PySem.Str.ofString "__debug__")) = false := beq_eq_false_iff_ne.mpr (seq_false hd)
    have h : (match slot x C.ns 0 with
        | some (i, .local) => match m[i]? with
          | some (some v) => k v σ
          | _ => .stuck
        | some (_, .globalImplicit) => opt (C.O.glob x) fun v => k v σ
        | some (i, .cell) => match m[i]? with
          | some (some v) => k v σ
          | _ => .stuck
        | _ => .stuck) = o := h
    generalize hs : slot x C.ns 0 = c0 at h
    rcases c0 with _ | ⟨i, kd⟩
    · exact (ho h.symm).elim
    have kind : C.env.kindOf x = some kd := by unfold Env.kindOf; rw [K.names]; exact (slot_lookup hs).1
    induction kd using NameKind.casesOn with
    | «local» =>
      have h : (match m[i]? with
          | some (some v) => k v σ
          | _ => .stuck) = o := h
      generalize hv : m[i]? = c0 at h
      rcases c0 with _ | _ | v
      · exact (ho h.symm).elim
      · exact (ho h.symm).elim
      · refine nn fun nG => ?_
        obtain ⟨mv, J, l⟩ := I
        obtain ⟨u, hu, ru⟩ := l.loc x i v hs hv
        refine nG ?_
        exact wpAny_Name (wpAny_loadName_local (m := mv) K.kind kind (by rw [K.loc]; exact J.ns) hu (hq.now h ⟨mv, J, l⟩ ru)) hd
    | globalImplicit =>
      refine nn fun nG => ?_
      obtain ⟨v, hv, h⟩ := opt_some h ho
      obtain ⟨u, ru, hn⟩ := K.orc.glob _ _ hv
      refine nG ?_
      have kn := I.kn
      have hg := kn.top.g
      refine Name_function_global K.kind kind ?_ hd
      rcases hn with hn | ⟨hn, hb, hne⟩
      · exact loadGlobal_global (by rw [K.glob]; exact hg.keeps I.keep) (mg_of kn.kin hg hn) (hq.now h I (up_rep (ru g kn)))
      · exact loadGlobal_builtin (by rw [K.glob]; exact hg.keeps I.keep) (mg_none_of kn.kin hg hn) (by rw [K.bui]; exact kn.top.b.keeps I.keep) ((kn.top.builtins x hne).trans hb) (hq.now h I (up_rep (ru g kn)))
    | cell =>
      have h : (match m[i]? with
          | some (some v) => k v σ
          | _ => .stuck) = o := h
      generalize hv : m[i]? = c0 at h
      rcases c0 with _ | _ | v
      · exact (ho h.symm).elim
      · exact (ho h.symm).elim
      · refine nn fun nG => ?_
        obtain ⟨mv, J, l⟩ := I
        obtain ⟨c, u, hc, hic, ru⟩ := l.cel x i v hs hv
        refine nG ?_
        exact wpAny_Name (wpAny_loadName_cell K.kind kind hc (hic.keeps J.keep) (hq.now h ⟨mv, J, l⟩ ru)) hd
    | _ => exact (ho h.symm).elim

theorem bool_low {p : PV} {v : Value} {k : KV} {o : Out} (h : k p σ = o) : True := trivial

theorem scN_ok {all : Names} : ∀ {l : Names}, scN all l = true → ∀ x ∈ l, (x.2 = .local ∨ x.2 = .globalImplicit) ∧ (x.2 = .local → all.lookup x.1 = some .local)
  | [], _, x, hx => nim hx
  | (y, k) :: r, h, x, hx => by
    cases k with
    | «local» =>
      have h : (match slot y all 0 with
        | some (_, .local) => scN all r
        | _ => false) = true := h
      generalize e : slot y all 0 = c at h
      rcases c with _ | ⟨i, k⟩
      · exact nft h
      induction k using NameKind.casesOn with
      | «local» =>
        rcases List.mem_cons.mp hx with rfl | hx
        · exact ⟨.inl rfl, fun ζ => (slot_lookup e).1⟩
        · exact scN_ok h x hx
      | _ => exact nft h
    | globalImplicit =>
      have h : scN all r = true := h
      rcases List.mem_cons.mp hx with rfl | hx
      · exact ⟨.inr rfl, fun q => by cases q⟩
      · exact scN_ok h x hx
    | _ => exact nft h
theorem folded_plain {e : PySem.Expr} {env : Env} (h : ∀ a b c, e ≠ .Set a b c) (x : Value) : foldedSetIterable e env x = pure x := by
  induction e using PySem.Expr.casesOn with
  | Set a b c => exact absurd rfl (h a b c)
  | _ => rfl

theorem listcomp_ok (S : Snd n) (K : C.Ok) (I : At C m g ρ σ s) {elt it : PySem.Expr} {x : Str} {px pos : Pos} {ifs : List PySem.Expr} {sc : Scope} {k : KV} {o : Out} (ho : o ≠ .stuck) (hsc : scOk sc = true)
    (h : evalE C.O C.ns n it m σ (fun v σ => opt (items v) fun xs => compL xs (compF C.O sc.names n x ifs elt) σ fun ys σ => k (.lst ys) σ) = o) (X : Ex C E o) {Q : Value → Shared → Prop} (hq : KP C m g ρ k o Q) :
    wpAny C.W.M C.A (eval (.ListComp elt [⟨.Name x px, it, ifs, 0⟩] sc pos) C.env) Q E s := by
  have z := sizeLine_eq
  have sk : sc.kind = .function ∧ scN sc.names sc.names = true := by
    rcases sc with ⟨kd, nm⟩
    induction kd using ScopeKind.casesOn with
    | function => exact ⟨rfl, hsc⟩
    | _ => exact nft hsc
  have sn := scN_ok sk.2
  refine wpAny_ListComp (fun x hx q => ?_) sk.1 (fun x hx => (sn x hx).2) ?_ (folded_plain fun a b c q => ?_)
  · rcases (sn x hx).1 with e | e <;> rw [e] at q <;> cases q
  · refine S.e C K it m σ _ o h ho g ρ s _ E I X fun p v σ₁ s₁ g₁ ρ₁ e₁ I₁ r₁ sg₁ sp₁ => ?_
    refine nn fun nG => ?_
    obtain ⟨ps, hps, e₁⟩ := opt_some e₁ ho
    refine nG ?_
    refine iter_ok I₁ hps r₁ fun oI fp P St W hst => ?_
    have I₂ : At C m g₁ ρ₁ σ₁ { s₁ with heap := s₁.heap.push oI } := I₁.grown (stays_push _ _)
    have FI := Foreign.new I₁ (a := s₁.heap.objs.size) (Heap.get?_none_of_le (Nat.le_refl _))
    refine wpAny_newList ?_ (by show 0 ≤ sizeLine; exact chk [_] .z 1 (.n 0) (.v 0) rfl)
    have FD := Foreign.new I₂ (a := (s₁.heap.push oI).objs.size) (Heap.get?_none_of_le (Nat.le_refl _))
    have I₃ : At C m g₁ ρ₁ σ₁ { s₁ with heap := (s₁.heap.push oI).push { cls := .type "list", data := .seq #[] } } := I₂.grown (stays_push _ _)
    have FL := Foreign.new I₃ (a := ((s₁.heap.push oI).push { cls := .type "list", data := .seq #[] }).objs.size) (Heap.get?_none_of_le (Nat.le_refl _))
    refine wpAny_newFunctionEnv (fun x hx q => ?_) (fun x hx => nim hx) (fun h' hn' sb' => ?_) sk.1
    · rcases (sn x hx).1 with e | e <;> rw [e] at q <;> cases q
    · have st' : (((s₁.heap.push oI).push { cls := .type "list", data := .seq #[] })).StaysIn h' := fun b o e => (sb'.2 b (Nat.ne_of_lt (Heap.lt_size e))).trans (Heap.get?_push_of_some _ e)
      have I₄ : At C m g₁ ρ₁ σ₁ { s₁ with heap := h', toks := s₁.toks + 0 } := I₃.grown st'
      have n1 : s₁.heap.objs.size < (s₁.heap.push oI).objs.size := by simp
      have n2 : (s₁.heap.push oI).objs.size < ((s₁.heap.push oI).push { cls := .type "list", data := .seq #[] }).objs.size := by simp
      have GI : C.G.get? s₁.heap.objs.size = none := by
        induction q : C.G.get? s₁.heap.objs.size using Option.casesOn with
        | none => rfl
        | some o' =>
          refine nn fun nG => ?_
          obtain ⟨mv, J, _⟩ := I₁
          refine nG ?_
          have := J.keep _ _ (J.st.gg _ _ q)
          exact absurd (Heap.lt_size this) (Nat.lt_irrefl _)
      have st₄ : St 0 h' := (W.walks C.A K.hand).frame _ _ _ hst fun b hb o e => st' b o (stays_push _ _ b o e)
      have hD : LList h' (s₁.heap.push oI).objs.size #[] := ⟨0, #[], st' _ _ (Heap.get?_push_size _ rfl)⟩
      have run : ∀ R : Result → Shared → Prop, (∀ ys ws σ' g' ρ' s' mv', k (.lst ys) σ' = o → At C m g' ρ' σ' s' → Foreign C g' ρ' (s₁.heap.push oI).objs.size → Foreign C g' ρ' ((s₁.heap.push oI).push { cls := .type "list", data := .seq #[] }).objs.size → LList s'.heap (s₁.heap.push oI).objs.size ws.toArray → Reps g' ys ws → ws.length ≤ sizeLine → s'.heap.Ns ((s₁.heap.push oI).push { cls := .type "list", data := .seq #[] }).objs.size mv' → g₁.StaysIn g' → ρ₁ <+: ρ' → R (.ok .next) s') →
          (o = .exc → ∀ e s', Sm C s' → (∃ mv', s'.heap.Ns ((s₁.heap.push oI).push { cls := .type "list", data := .seq #[] }).objs.size mv') → (∀ h', Heap.SameBut ((s₁.heap.push oI).push { cls := .type "list", data := .seq #[] }).objs.size s'.heap h' → XStT C e h') → R (.error (.ref e)) s') →
          codeAny (model PR C.W.w) C.A (.compLoop (.ListComp elt [⟨.Name x px, it, ifs, 0⟩] sc pos) 0 (.ref s₁.heap.objs.size) (.ref (s₁.heap.push oI).objs.size)
            { newEnv sc ((s₁.heap.push oI).push { cls := .type "list", data := .seq #[] }).objs.size C.env.globals [] C.env.qual none .none (some C.env) builtinsNs with scope := sc }) R { s₁ with heap := h', toks := s₁.toks + 0 } := fun R hR hX =>
        comp_ok (names := sc.names) (m0 := sc.names.map fun ζ => none) (fun mv g ρ => LocOk.none mv) K S.e S.i ho I₄ W st₄ hD hn' FI FD FL (Nat.ne_of_lt n1) (Nat.ne_of_lt (Nat.lt_trans n1 n2)) (Nat.ne_of_lt n2) GI sk.1 rfl (Cel.of_no fun x hx q => by rcases (sn x hx).1 with e | e <;> rw [e] at q <;> cases q) rfl K.glob K.bui K.frm e₁ hR hX
      have hok : ∀ ys ws σ' g' ρ' (s' : Shared) mv', k (.lst ys) σ' = o → At C m g' ρ' σ' s' → Foreign C g' ρ' (s₁.heap.push oI).objs.size → Foreign C g' ρ' ((s₁.heap.push oI).push { cls := .type "list", data := .seq #[] }).objs.size → LList s'.heap (s₁.heap.push oI).objs.size ws.toArray → Reps g' ys ws → ws.length ≤ sizeLine → s'.heap.Ns ((s₁.heap.push oI).push { cls := .type "list", data := .seq #[] }).objs.size mv' → g₁.StaysIn g' → ρ₁ <+: ρ' →
          ∃ m, s'.heap.Ns ((s₁.heap.push oI).push { cls := .type "list", data := .seq #[] }).objs.size m ∧ ∀ h', Heap.SameBut ((s₁.heap.push oI).push { cls := .type "list", data := .seq #[] }).objs.size s'.heap h' → Q (.ref (s₁.heap.push oI).objs.size) { s' with heap := h' } := by
        intro ys ws σ' g' ρ' s' mv' hk J FD' FL' hl hr hz hns sg sp
        refine ⟨mv', hns, fun h'' sb => ?_⟩
        have J' : At C m g' ρ' σ' { s' with heap := h'' } := J.foreign FL' sb
        have hl' : LList h'' (s₁.heap.push oI).objs.size ws.toArray := by obtain ⟨a, b, c⟩ := hl; exact ⟨a, b, (sb.2 _ (Nat.ne_of_lt n2)).trans c⟩
        refine nn fun nG => ?_
        obtain ⟨J₂, sg₂, r₂⟩ := J'.freeze FD' (s := { s' with heap := h'' }) hl' hr hz
        refine nG ?_
        exact hq _ _ _ _ _ _ hk J₂ (up_rep r₂) (StaysIn.trans (StaysIn.trans sg₁ sg) sg₂) (sp₁.trans sp)
      have hex : o = .exc → ∀ e (s' : Shared), Sm C s' → (∃ mv', s'.heap.Ns ((s₁.heap.push oI).push { cls := .type "list", data := .seq #[] }).objs.size mv') → (∀ h', Heap.SameBut ((s₁.heap.push oI).push { cls := .type "list", data := .seq #[] }).objs.size s'.heap h' → XStT C e h') →
          ∃ m, s'.heap.Ns ((s₁.heap.push oI).push { cls := .type "list", data := .seq #[] }).objs.size m ∧ ∀ h', Heap.SameBut ((s₁.heap.push oI).push { cls := .type "list", data := .seq #[] }).objs.size s'.heap h' → wpAny C.W.M C.A (PySem.passOn "comprehension.variables-let-go" (.ref e) { newEnv sc ((s₁.heap.push oI).push { cls := .type "list", data := .seq #[] }).objs.size C.env.globals [] C.env.qual none .none (some C.env) builtinsNs with scope := sc }) Q E { s' with heap := h' } := by
        rintro he e s' sm ⟨mv', hns⟩ hxt
        exact ⟨mv', hns, fun h'' sb => x_pass K (s := { s' with heap := h'' }) K.frm (hxt h'' sb) fun h3 xt => X he e _ sm xt.st⟩
      exact codeAny_compStart_list (run _ (fun ys ws σ' g' ρ' s' mv' a b c d e f g' h i j => hok ys ws σ' _ ρ' s' mv' a b c d e f g' h i j) (fun a b c d e f => hex a b c d e f))
        ((W.walks C.A K.hand).self 0 _ _ _ st₄ (run _ (fun ys ws σ' g' ρ' s' mv' a b c d e f g' h i j => hok ys ws σ' _ ρ' s' mv' a b c d e f g' h i j) (fun a b c d e f => hex a b c d e f)))
  · subst q
    induction n using Nat.casesOn with
    | zero => exact ho h.symm
    | succ n => exact ho h.symm

theorem noX_some {r o : Out} (h : noX r = o) (ho : o ≠ .stuck) : r = o ∧ o ≠ .exc := by
  induction r using Out.casesOn with
  | ok v σ => exact ⟨h, fun q => by rw [← h] at q; cases q⟩
  | exc => exact absurd h.symm ho
  | stuck => exact absurd h.symm ho
theorem slot_get {x : Str} : ∀ {ns : Names} {i j : Nat} {k : NameKind}, slot x ns i = some (j, k) → ns[j - i]? = some (x, k)
  | [], _, _, _, h => by exact nns h
  | (y, k') :: r, i, j, k, h => by
    have hl := (slot_lookup h).2.1
    unfold slot at h
    induction q : seq y x using Bool.casesOn with
    | true =>
      rw [q] at h
      cases h
      have := seq_iff.mp q
      subst this
      simp
    | false =>
      rw [q] at h
      have := slot_get h
      have hl := (slot_lookup h).2.1
      have e : j - i = (j - (i + 1)) + 1 := by omega
      rw [e]; simpa using this
theorem relM_get {ns : Names} {m : Loc} {p : PV} : ∀ {names : Names} {t : Nat}, (relM ns m names)[t]? = some (some p) → ∃ x i, names[t]? = some (x, .free) ∧ (relN names)[t]? = some (x, .cell) ∧ slot x ns 0 = some (i, .cell) ∧ m[i]? = some (some p)
  | [], t, h => by cases h
  | (x, k) :: r, 0, h => by
    cases k with
    | free =>
      refine ⟨x, ?_⟩
      have h : some (match slot x ns 0 with
        | some (i, .cell) => match m[i]? with
          | some (some v) => some v
          | _ => none
        | _ => none) = some (some p) := h
      have h := Option.some.inj h
      generalize e : slot x ns 0 = c at h
      rcases c with _ | ⟨i, k⟩
      · exact nns h
      induction k using NameKind.casesOn with
      | cell =>
        have h : (match m[i]? with
          | some (some v) => some v
          | _ => none) = some p := h
        generalize e2 : m[i]? = c at h
        rcases c with _ | _ | v
        · exact nns h
        · exact nns h
        · obtain rfl := Option.some.inj h
          exact ⟨i, rfl, rfl, (by first | exact e | rfl), (by first | exact e2 | rfl)⟩
      | _ => exact nns h
    | _ => cases h
  | (x, k) :: r, t + 1, h => by
    have e1 : (relM ns m ((x, k) :: r))[t + 1]? = (relM ns m r)[t]? := by cases k <;> rfl
    have e2 : (relN ((x, k) :: r))[t + 1]? = (relN r)[t]? := by cases k <;> rfl
    rw [e1] at h
    refine nn fun nG => ?_
    obtain ⟨y, i, a, b, c, d⟩ := relM_get h
    refine nG ?_
    exact ⟨y, i, by simpa using a, by rw [e2]; exact b, c, d⟩
theorem scN2_ok {ns : Names} {m : Loc} {all : Names} : ∀ {l : Names}, scN2 ns m all l = true → ∀ x ∈ l, (x.2 = .local ∨ x.2 = .globalImplicit ∨ x.2 = .free) ∧ (x.2 = .local → all.lookup x.1 = some .local) ∧ (x.2 = .free → ∃ i p, slot x.1 ns 0 = some (i, .cell) ∧ m[i]? = some (some p))
  | [], _, x, hx => nim hx
  | (y, k) :: r, h, x, hx => by
    cases k with
    | «local» =>
      have h : (match slot y all 0 with
        | some (_, .local) => scN2 ns m all r
        | _ => false) = true := h
      generalize e : slot y all 0 = c at h
      rcases c with _ | ⟨i, k⟩
      · exact nft h
      induction k using NameKind.casesOn with
      | «local» =>
        rcases List.mem_cons.mp hx with rfl | hx
        · exact ⟨.inl rfl, fun ζ => (slot_lookup e).1, fun q => nomatch q⟩
        · exact scN2_ok h x hx
      | _ => exact nft h
    | globalImplicit =>
      have h : scN2 ns m all r = true := h
      rcases List.mem_cons.mp hx with rfl | hx
      · exact ⟨.inr (.inl rfl), (fun q => by cases q), (fun q => by cases q)⟩
      · exact scN2_ok h x hx
    | free =>
      have h : (match slot y ns 0 with
        | some (i, .cell) => match m[i]? with
          | some (some _) => scN2 ns m all r
          | _ => false
        | _ => false) = true := h
      generalize e : slot y ns 0 = c at h
      rcases c with _ | ⟨i, k⟩
      · exact nft h
      induction k using NameKind.casesOn with
      | cell =>
        have h : (match m[i]? with
          | some (some _) => scN2 ns m all r
          | _ => false) = true := h
        generalize e2 : m[i]? = c at h
        rcases c with _ | _ | p
        · exact nft h
        · exact nft h
        · rcases List.mem_cons.mp hx with rfl | hx
          · exact ⟨.inr (.inr rfl), (fun q => nomatch q), fun ζ => ⟨i, p, e, e2⟩⟩
          · exact scN2_ok h x hx
      | _ => exact nft h
    | _ => exact nft h
theorem relabel_names {sc : Scope} {env : Env} (hk : env.scope.kind = .function) (h : ∀ x ∈ sc.names, x.2 = .free → env.kindOf x.1 = some .cell) : (relabel sc env).names = relN sc.names := by
  unfold relabel
  show sc.names.map _ = _
  have : ∀ l : Names, (∀ x ∈ l, x.2 = .free → env.kindOf x.1 = some .cell) → (l.map fun (n, k) => if (k == .free && env.scope.kind == .function && env.kindOf n == some .cell) then (n, .cell) else (n, k)) = relN l := by
    intro l
    induction l with
    | nil => intro _; rfl
    | cons p r ih =>
      intro hl
      obtain ⟨n, k⟩ := p
      rw [List.map_cons, ih fun x hx => hl x (.tail _ hx)]
      cases k with
      | free =>
        have := hl (n, .free) (.head _) rfl
        simp only [this, hk]
        rfl
      | _ => rfl
  exact this _ h
theorem closure_ok {sc : Scope} {env : Env} (h : ∀ x ∈ sc.names, x.2 = .free → ∃ c, env.cells.lookup x.1 = some c) : ∃ cl, closureFor sc env = pure cl ∧ ∀ x ∈ sc.names, x.2 = .free → cl.lookup x.1 = env.cells.lookup x.1 := by
  have good : ∀ (cs : List (Str × Addr)) (x : Str), (∀ y ∈ cs, env.cells.lookup y.1 = some y.2) → (∃ y ∈ cs, y.1 = x) → cs.lookup x = env.cells.lookup x := by
    intro cs x
    induction cs with
    | nil => rintro _ ⟨y, hy, _⟩; cases hy
    | cons y r ih =>
      intro hc hx
      obtain ⟨n, c⟩ := y
      by_cases e : x = n
      · subst e
        rw [List.lookup_cons_self]
        exact (hc (x, c) (.head _)).symm
      · have hb : (x == n) = false := beq_eq_false_iff_ne.mpr e
        rw [List.lookup, hb]
        refine ih (fun y hy => hc y (.tail _ hy)) ?_
        refine nn fun nG => ?_
        obtain ⟨y, hy, q⟩ := hx
        refine nG ?_
        rcases List.mem_cons.mp hy with rfl | hy
        · exact absurd q.symm e
        · exact ⟨y, hy, q⟩
  have loop : ∀ (l : Names) (cs : List (Str × Addr)), (∀ x ∈ l, x.2 = .free → ∃ c, env.cells.lookup x.1 = some c) → (∀ y ∈ cs, env.cells.lookup y.1 = some y.2) →
      ∃ cl, (forIn l cs fun (p : Str × NameKind) (cs : List (Str × Addr)) => (if (p.2 == .free) = true then do let a ← cellOf env p.1; pure (ForInStep.yield ((p.1, a) :: cs)) else pure (ForInStep.yield cs) : Sem (ForInStep (List (Str × Addr))))) = pure cl ∧ (∀ y ∈ cl, env.cells.lookup y.1 = some y.2) ∧ (∀ y ∈ cs, y ∈ cl) ∧ ∀ x ∈ l, x.2 = .free → ∃ y ∈ cl, y.1 = x.1 := by
    intro l
    induction l with
    | nil => intro cs _ hc; exact ⟨cs, rfl, hc, fun y hy => hy, fun x hx => nim hx⟩
    | cons p r ih =>
      intro cs hl hc
      obtain ⟨n, k⟩ := p
      induction hk : k == NameKind.free using Bool.casesOn with
      | true =>
        have hkf : k = .free := by simpa using hk
        refine nn fun nG => ?_
        obtain ⟨c, e⟩ := hl (n, k) (.head _) hkf
        obtain ⟨cl, a, b, d, f⟩ := ih ((n, c) :: cs) (fun x hx => hl x (.tail _ hx)) fun y hy => by
          rcases List.mem_cons.mp hy with rfl | hy
          · exact e
          · exact hc y hy
        refine nG ?_
        refine ⟨cl, ?_, b, fun y hy => d y (.tail _ hy), fun x hx hf => ?_⟩
        · rw [List.forIn_cons]
          have e : env.cells.lookup n = some c := e
          have eo : cellOf env n = pure c := by unfold cellOf; rw [e]
          simp only [hk, if_true, eo, pure_bind]
          exact a
        · rcases List.mem_cons.mp hx with rfl | hx
          · exact ⟨(n, c), d _ (.head _), rfl⟩
          · exact f x hx hf
      | false =>
        refine nn fun nG => ?_
        obtain ⟨cl, a, b, d, f⟩ := ih cs (fun x hx => hl x (.tail _ hx)) hc
        refine nG ?_
        refine ⟨cl, ?_, b, d, fun x hx hf => ?_⟩
        · rw [List.forIn_cons]
          simp only [hk, Bool.false_eq_true, if_false, pure_bind]
          exact a
        · rcases List.mem_cons.mp hx with rfl | hx
          · exfalso
            have hf : k = .free := hf
            rw [hf] at hk; cases hk
          · exact f x hx hf
  refine nn fun nG => ?_
  obtain ⟨cl, a, b, _, f⟩ := loop sc.names [] h fun y hy => nim hy
  refine nG ?_
  refine ⟨cl, ?_, fun x hx hf => good cl x.1 b (f x hx hf)⟩
  unfold closureFor
  rw [← a]
  exact bind_pure _

theorem listcomp_free_ok (S : Snd n) (K : C.Ok) (I : At C m g ρ σ s) {elt it : PySem.Expr} {x : Str} {px pos : Pos} {ifs : List PySem.Expr} {sc : Scope} {k : KV} {o : Out} (ho : o ≠ .stuck) (hsc : scOk2 C.ns m sc = true)
    (h : noX (evalE C.O C.ns n it m σ (fun v σ => opt (items v) fun xs => compL xs (compG C.O (relN sc.names) (relM C.ns m sc.names) n x ifs elt) σ fun ys σ => k (.lst ys) σ)) = o) (X : Ex C E o) {Q : Value → Shared → Prop} (hq : KP C m g ρ k o Q) :
    wpAny C.W.M C.A (eval (.ListComp elt [⟨.Name x px, it, ifs, 0⟩] sc pos) C.env) Q E s := by
  have z := sizeLine_eq
  obtain ⟨h, hnx⟩ := noX_some h ho
  have sk : sc.kind = .function ∧ scN2 C.ns m sc.names sc.names = true := by
    rcases sc with ⟨kd, nm⟩
    induction kd using ScopeKind.casesOn with
    | function => exact ⟨rfl, hsc⟩
    | _ => exact nft hsc
  have sn := scN2_ok sk.2
  have kc : ∀ x ∈ sc.names, x.2 = .free → C.env.kindOf x.1 = some .cell := fun x hx hf => by
    obtain ⟨i, p, e, _⟩ := (sn x hx).2.2 hf
    unfold Env.kindOf
    rw [K.names]
    exact (slot_lookup e).1
  obtain ⟨cl, hcl, hlk⟩ := closure_ok (sc := sc) (env := C.env) fun x hx hf => by
    obtain ⟨i, p, e, e2⟩ := (sn x hx).2.2 hf
    obtain ⟨mv, J, l⟩ := I
    obtain ⟨c, v, a, _⟩ := l.cel x.1 i p e e2
    exact ⟨c, a⟩
  have hrel := relabel_names (sc := sc) (env := C.env) K.kind kc
  have nocell : ∀ x ∈ sc.names, x.2 ≠ .cell := fun x hx q => by rcases (sn x hx).1 with e | e | e <;> rw [e] at q <;> cases q
  skip
  refine wpAny_comprehension_free (use := none) rfl (folded_plain fun a b c q => ?_) hcl sk.1 (fun x hx => (sn x hx).2.1) ?_
  · subst q
    induction n using Nat.casesOn with
    | zero => exact ho h.symm
    | succ n => exact ho h.symm
  · refine S.e C K it m σ _ o h ho g ρ s _ E I X fun p v σ₁ s₁ g₁ ρ₁ e₁ I₁ r₁ sg₁ sp₁ => ?_
    refine nn fun nG => ?_
    obtain ⟨ps, hps, e₁⟩ := opt_some e₁ ho
    refine nG ?_
    refine iter_ok I₁ hps r₁ fun oI fp P St W hst => ?_
    have I₂ : At C m g₁ ρ₁ σ₁ { s₁ with heap := s₁.heap.push oI } := I₁.grown (stays_push _ _)
    have FI := Foreign.new I₁ (a := s₁.heap.objs.size) (Heap.get?_none_of_le (Nat.le_refl _))
    refine wpAny_newList ?_ (by show 0 ≤ sizeLine; exact chk [_] .z 1 (.n 0) (.v 0) rfl)
    have FD := Foreign.new I₂ (a := (s₁.heap.push oI).objs.size) (Heap.get?_none_of_le (Nat.le_refl _))
    have I₃ : At C m g₁ ρ₁ σ₁ { s₁ with heap := (s₁.heap.push oI).push { cls := .type "list", data := .seq #[] } } := I₂.grown (stays_push _ _)
    have FL := Foreign.new I₃ (a := ((s₁.heap.push oI).push { cls := .type "list", data := .seq #[] }).objs.size) (Heap.get?_none_of_le (Nat.le_refl _))
    refine wpAny_newFunctionEnv nocell (fun x hx => nim hx) (fun h' hn' sb' => ?_) sk.1
    · have st' : (((s₁.heap.push oI).push { cls := .type "list", data := .seq #[] })).StaysIn h' := fun b o e => (sb'.2 b (Nat.ne_of_lt (Heap.lt_size e))).trans (Heap.get?_push_of_some _ e)
      have I₄ : At C m g₁ ρ₁ σ₁ { s₁ with heap := h', toks := s₁.toks + 0 } := I₃.grown st'
      have n1 : s₁.heap.objs.size < (s₁.heap.push oI).objs.size := by simp
      have n2 : (s₁.heap.push oI).objs.size < ((s₁.heap.push oI).push { cls := .type "list", data := .seq #[] }).objs.size := by simp
      have GI : C.G.get? s₁.heap.objs.size = none := by
        induction q : C.G.get? s₁.heap.objs.size using Option.casesOn with
        | none => rfl
        | some o' =>
          refine nn fun nG => ?_
          obtain ⟨mv, J, _⟩ := I₁
          refine nG ?_
          have := J.keep _ _ (J.st.gg _ _ q)
          exact absurd (Heap.lt_size this) (Nat.lt_irrefl _)
      have st₄ : St 0 h' := (W.walks C.A K.hand).frame _ _ _ hst fun b hb o e => st' b o (stays_push _ _ b o e)
      have hD : LList h' (s₁.heap.push oI).objs.size #[] := ⟨0, #[], st' _ _ (Heap.get?_push_size _ rfl)⟩
      have run : ∀ R : Result → Shared → Prop, (∀ ys ws σ' g' ρ' s' mv', k (.lst ys) σ' = o → At C m g' ρ' σ' s' → Foreign C g' ρ' (s₁.heap.push oI).objs.size → Foreign C g' ρ' ((s₁.heap.push oI).push { cls := .type "list", data := .seq #[] }).objs.size → LList s'.heap (s₁.heap.push oI).objs.size ws.toArray → Reps g' ys ws → ws.length ≤ sizeLine → s'.heap.Ns ((s₁.heap.push oI).push { cls := .type "list", data := .seq #[] }).objs.size mv' → g₁.StaysIn g' → ρ₁ <+: ρ' → R (.ok .next) s') →
          codeAny (model PR C.W.w) C.A (.compLoop (.ListComp elt [⟨.Name x px, it, ifs, 0⟩] sc pos) 0 (.ref s₁.heap.objs.size) (.ref (s₁.heap.push oI).objs.size)
            { newEnv sc ((s₁.heap.push oI).push { cls := .type "list", data := .seq #[] }).objs.size C.env.globals cl C.env.qual none .none (some C.env) builtinsNs with scope := relabel sc C.env }) R { s₁ with heap := h', toks := s₁.toks + 0 } := fun R hR =>
        comp_ok (names := relN sc.names) (m0 := relM C.ns m sc.names) (fun mv g ρ y j q e1 e2 => by
          exfalso
          refine nn fun nG => ?_
          obtain ⟨z, i, a1, a2, _, _⟩ := relM_get e2
          refine nG ?_
          have := slot_get e1
          rw [Nat.sub_zero, a2] at this
          cases this) K S.e S.i ho I₄ W st₄ hD hn' FI FD FL (Nat.ne_of_lt n1) (Nat.ne_of_lt (Nat.lt_trans n1 n2)) (Nat.ne_of_lt n2) GI (by show (relabel sc C.env).kind = _; unfold relabel; exact sk.1) hrel (fun y j q e1 e2 => by
            refine nn fun nG => ?_
            obtain ⟨z, i, a1, a2, a3, a4⟩ := relM_get e2
            refine nG ?_
            have := slot_get e1
            rw [Nat.sub_zero, a2] at this
            cases this
            refine nn fun nG => ?_
            obtain ⟨mv, J, l⟩ := I₄
            obtain ⟨c, v, b1, b2, b3⟩ := l.cel y i q a3 a4
            refine nG ?_
            exact ⟨c, v, (hlk _ (List.mem_of_getElem? a1) rfl).trans b1, b2, b3⟩) rfl K.glob K.bui K.frm e₁ hR fun he => absurd he hnx
      have hok : ∀ ys ws σ' g' ρ' (s' : Shared) mv', k (.lst ys) σ' = o → At C m g' ρ' σ' s' → Foreign C g' ρ' (s₁.heap.push oI).objs.size → Foreign C g' ρ' ((s₁.heap.push oI).push { cls := .type "list", data := .seq #[] }).objs.size → LList s'.heap (s₁.heap.push oI).objs.size ws.toArray → Reps g' ys ws → ws.length ≤ sizeLine → s'.heap.Ns ((s₁.heap.push oI).push { cls := .type "list", data := .seq #[] }).objs.size mv' → g₁.StaysIn g' → ρ₁ <+: ρ' →
          ∃ m, s'.heap.Ns ((s₁.heap.push oI).push { cls := .type "list", data := .seq #[] }).objs.size m ∧ ∀ h', Heap.SameBut ((s₁.heap.push oI).push { cls := .type "list", data := .seq #[] }).objs.size s'.heap h' → Q (.ref (s₁.heap.push oI).objs.size) { s' with heap := h' } := by
        intro ys ws σ' g' ρ' s' mv' hk J FD' FL' hl hr hz hns sg sp
        refine ⟨mv', hns, fun h'' sb => ?_⟩
        have J' : At C m g' ρ' σ' { s' with heap := h'' } := J.foreign FL' sb
        have hl' : LList h'' (s₁.heap.push oI).objs.size ws.toArray := by obtain ⟨a, b, c⟩ := hl; exact ⟨a, b, (sb.2 _ (Nat.ne_of_lt n2)).trans c⟩
        refine nn fun nG => ?_
        obtain ⟨J₂, sg₂, r₂⟩ := J'.freeze FD' (s := { s' with heap := h'' }) hl' hr hz
        refine nG ?_
        exact hq _ _ _ _ _ _ hk J₂ (up_rep r₂) (StaysIn.trans (StaysIn.trans sg₁ sg) sg₂) (sp₁.trans sp)
      have fin := run (compPost C.W.M C.A E none Q (.ref (s₁.heap.push oI).objs.size) ((s₁.heap.push oI).push { cls := .type "list", data := .seq #[] }).objs.size) fun ys ws σ' g' ρ' s' mv' a b c d e f g' h i j => hok ys ws σ' _ ρ' s' mv' a b c d e f g' h i j
      exact codeAny_compStart_list fin ((W.walks C.A K.hand).self 0 _ _ _ st₄ fin)
end
end Mine
end
section
set_option maxRecDepth 100000
namespace Mine
open PySem PySem.W PyProof.Rows PySem.Spec PySem.Calls PySem.SeqAt

section
variable {C : Cx} {m : Loc} {g : Heap} {ρ : List (Addr × Addr)} {σ : List Cell} {s : Shared} {E : Value → Shared → Prop} {A : Around} {n : Nat}

theorem reps_all {ps : List PV} {vs : List Value} (ra : RepsC g ρ ps vs) (h : noCells ps = true) : Reps g ps vs := lows ra h

theorem snd_e (S : Snd n) (C : Cx) (K : C.Ok) : SE (n + 1) C := by
  intro e m σ k o h ho g ρ s Q E I X q
  have z := sizeLine_eq
  have zl := LIM_line
  induction e using PySem.Expr.casesOn with
  | Constant c kk pos =>
    induction c using PySem.Const.casesOn with
    | none => exact wpAny_Constant_none (q.now h I (show RepC g ρ .none _ from rfl))
    | bool b => exact wpAny_Constant_bool (q.now h I (show RepC g ρ (.bool b) _ from rfl))
    | int i => exact wpAny_Constant_int (q.now h (I.toks _) (show RepC g ρ (.int i) _ from ⟨_, rfl⟩))
    | str x =>
      obtain ⟨hz, h⟩ := br_stuck h ho
      have hz := of_decide_eq_true hz
      exact wpAny_Constant_str (q.now h (I.toks _) (show RepC g ρ (.str x) _ from ⟨by exact Nat.le_trans hz (Nat.le_of_eq zl), _, rfl⟩))
    | bytes b =>
      obtain ⟨hz, h⟩ := br_stuck h ho
      have hz := of_decide_eq_true hz
      skip
      exact wpAny_mkTextBytes (q.now h (I.toks _) (show RepC g ρ (.bytes b.toArray) _ from ⟨by simp; exact Nat.le_trans hz (Nat.le_of_eq zl), _, rfl⟩))
    | _ => exact absurd h.symm ho
  | Name x pos => exact name_ok K I ho h q
  | BoolOp op vs pos => exact S.b C K op vs m σ k o h ho g ρ s pos Q E I X q
  | BinOp l op r pos =>
    refine wpAny_BinOp (S.e C K l m σ _ o h ho g ρ s _ E I X fun p v σ₁ s₁ g₁ ρ₁ e₁ I₁ r₁ sg₁ sp₁ => ?_)
    refine S.e C K r m σ₁ _ o e₁ ho g₁ ρ₁ s₁ _ E I₁ X fun p' v' σ₂ s₂ g₂ ρ₂ e₂ I₂ r₂ sg₂ sp₂ => ?_
    obtain ⟨nc1, nc2⟩ := binop_cells e₂ ho
    have r₁' := low (r₁.mono sg₂ sp₂) nc1
    have r₂' := low r₂ nc2
    exact p_binop e₂ ho (r₁'.mono I₂.keep) (r₂'.mono I₂.keep) fun p₃ v₃ tk e₃ r₃ => q _ _ _ _ _ _ e₃ (I₂.toks tk) (up_rep (r₃ g₂)) (StaysIn.trans sg₁ sg₂) (sp₁.trans sp₂)
  | UnaryOp op x pos =>
    induction op using PySem.UnaryOp.casesOn with
    | Not =>
      refine wpAny_UnaryOp (S.e C K x m σ _ o h ho g ρ s _ E I X fun p v σ₁ s₁ g₁ ρ₁ e₁ I₁ r₁ sg₁ sp₁ => ?_)
      induction p using PV.casesOn with
      | bool b =>
        cases (show v = .bool b from r₁)
        exact not_of (wpAny_truthy_bool (q _ _ _ _ _ _ e₁ I₁ (show RepC g₁ ρ₁ (.bool !b) _ from rfl) sg₁ sp₁))
      | _ => exact absurd e₁.symm ho
    | USub =>
      refine wpAny_UnaryOp (S.e C K x m σ _ o h ho g ρ s _ E I X fun p v σ₁ s₁ g₁ ρ₁ e₁ I₁ r₁ sg₁ sp₁ => ?_)
      induction p using PV.casesOn with
      | int i =>
        obtain ⟨t, rfl⟩ := (show ∃ t, v = .int i t from r₁)
        exact neg_int (q _ _ _ _ _ _ e₁ (I₁.toks _) (show RepC g₁ ρ₁ (.int (-i)) _ from ⟨_, rfl⟩) sg₁ sp₁)
      | _ => exact absurd e₁.symm ho
    | _ => exact absurd h.symm ho
  | IfExp t b c pos =>
    refine wpAny_IfExp (S.t C K t m σ _ o h ho g ρ s _ E I X fun c' σ₁ s₁ g₁ ρ₁ e₁ I₁ sg₁ sp₁ => ?_)
    induction c' using Bool.casesOn with
    | true => skip; exact S.e C K b m σ₁ k o e₁ ho g₁ ρ₁ s₁ Q E I₁ X (q.fut sg₁ sp₁)
    | false => skip; exact S.e C K c m σ₁ k o e₁ ho g₁ ρ₁ s₁ Q E I₁ X (q.fut sg₁ sp₁)
  | Compare l ops rs pos =>
    skip
    refine wpAny_bind (S.e C K l m σ _ o h ho g ρ s _ E I X fun p v σ₁ s₁ g₁ ρ₁ e₁ I₁ r₁ sg₁ sp₁ => ?_)
    exact (S.c C K p ops rs m σ₁ _ o e₁ ho g₁ ρ₁ s₁ pos v E I₁ X r₁).1 Q fun c σ₂ s₂ g₂ ρ₂ e₂ I₂ sg₂ sp₂ => q _ _ _ _ _ _ e₂ I₂ (show RepC g₂ ρ₂ (.bool c) _ from rfl) (StaysIn.trans sg₁ sg₂) (sp₁.trans sp₂)
  | Attribute ob name pos =>
    have h : evalE C.O C.ns n (plainB ob) m σ (fun ov σ => attr C.O σ ov name fun v => k v σ) = o := h
    have hb := plainB_of h ho
    rw [hb] at h
    refine attr_eval hb (S.e C K ob m σ _ o h ho g ρ s _ E I X fun p v σ₁ s₁ g₁ ρ₁ e₁ I₁ r₁ sg₁ sp₁ => ?_)
    exact attr_ok K I₁ e₁ ho r₁ fun p' v' tk e₂ r₂ => q _ _ _ _ _ _ e₂ (I₁.toks tk) (up_rep r₂) sg₁ sp₁
  | List es pos =>
    induction es using List.casesOn with
    | nil =>
      skip
      refine wpAny_bind (wpAny_standAt (wpAny_bind (wpAny_pure (wpAny_newList ?_ (by show 0 ≤ sizeLine; exact chk [_] .z 1 (.n 0) (.v 0) rfl)))))
      have hn : s.heap.get? s.heap.objs.size = none := Heap.get?_none_of_le (Nat.le_refl _)
      have F := Foreign.new I hn
      have I₁ : At C m g ρ σ { s with heap := s.heap.push { cls := .type "list", data := .seq #[] } } := I.grown (stays_push _ _)
      obtain ⟨I₂, sp⟩ := I₁.fresh (x := s.heap.objs.size) (core := s.heap.objs.size) (c := .list []) ⟨rfl, [], ⟨0, #[], Heap.get?_push_size _ rfl⟩, (by simp [Reps]), Nat.zero_le _⟩ F.g F.L (fun o ho hn => by cases F.H o ho hn) F.c
      have hl : σ.length = ρ.length := by obtain ⟨_, J, _⟩ := I; exact J.cells.len.symm
      refine q (.cell σ.length) _ _ _ g _ h I₂ ⟨(s.heap.objs.size, s.heap.objs.size), ?_, rfl⟩ (StaysIn.refl g) sp
      rw [hl, List.getElem?_append_right (Nat.le_refl _)]
      simp
    | cons e es =>
      obtain ⟨hn, h⟩ := br_stuck h ho
      have hn : es.length < 100 := by simpa [Nat.blt_eq] using hn
      skip
      refine wpAny_bind (wpAny_standAt (wpAny_bind (S.a C K (e :: es) m σ _ o h ho g ρ s pos _ E I X fun ps vs σ₁ s₁ g₁ ρ₁ e₁ I₁ r₁ hl sg₁ sp₁ => ?_)))
      obtain ⟨nc, e₁⟩ := br_stuck e₁ ho
      have rr := lows r₁ nc
      have hz : vs.length ≤ sizeLine := by rw [rr.length, hl]; exact chk [_,_] (.h 1 (.n 16777216) (.v 1) (.h 1 (.a (.v 0) (.n 1)) (.n 100) .z)) 1 (.a (.v 0) (.n 1)) (.v 1) rfl (Nat.le_of_eq (Eq.symm z)) hn
      obtain ⟨g', I', sg', r'⟩ := I₁.newLst (tk := s₁.toks) rr hz
      exact wpAny_newList (q _ _ _ _ _ _ e₁ I' (up_rep r') (StaysIn.trans sg₁ sg') sp₁) hz
  | Tuple es kk pos =>
    obtain ⟨hn, h⟩ := br_stuck h ho
    have hn : es.length < 100 := by simpa [Nat.blt_eq] using hn
    skip
    refine wpAny_bind (wpAny_standAt (wpAny_bind (S.a C K es m σ _ o h ho g ρ s pos _ E I X fun ps vs σ₁ s₁ g₁ ρ₁ e₁ I₁ r₁ hl sg₁ sp₁ => ?_)))
    obtain ⟨nc, e₁⟩ := br_stuck e₁ ho
    have rr := lows r₁ nc
    have hz : vs.length ≤ sizeLine := by rw [rr.length, hl]; exact chk [_,_] (.h 1 (.n 16777216) (.v 1) (.h 1 (.a (.v 0) (.n 1)) (.n 100) .z)) 1 (.v 0) (.v 1) rfl (Nat.le_of_eq (Eq.symm z)) hn
    obtain ⟨g', I', sg', r'⟩ := I₁.newTup (tk := s₁.toks) rr hz
    exact wpAny_newTuple (q _ _ _ _ _ _ e₁ I' (up_rep r') (StaysIn.trans sg₁ sg') sp₁) hz
  | Subscript ob i pos =>
    induction i using PySem.Expr.casesOn with
    | Slice lo hi st p2 =>
      induction st using Option.casesOn with
      | none =>
        refine Subscript_ (S.e C K ob m σ _ o h ho g ρ s _ E I X fun p v σ₁ s₁ g₁ ρ₁ e₁ I₁ r₁ sg₁ sp₁ => ?_)
        refine wpAny_Slice (S.o C K lo m σ₁ _ o e₁ ho g₁ ρ₁ s₁ _ E I₁ X fun p₂ v₂ σ₂ s₂ g₂ ρ₂ e₂ I₂ r₂ sg₂ sp₂ => ?_)
        refine S.o C K hi m σ₂ _ o e₂ ho g₂ ρ₂ s₂ _ E I₂ X fun p₃ v₃ σ₃ s₃ g₃ ρ₃ e₃ I₃ r₃ sg₃ sp₃ => ?_
        refine wpAny_pure ?_
        have I₄ : At C m g₃ ρ₃ σ₃ { s₃ with heap := s₃.heap.push { cls := .type "slice", data := .fields #[v₂, v₃, .none] } } := I₃.grown (stays_push _ _)
        exact slice_ok I₄ e₃ ho (r₁.mono (StaysIn.trans sg₂ sg₃) (sp₂.trans sp₃)) (r₂.mono sg₃ sp₃) r₃ (Heap.IsSliceOf.new _ _ _ _) fun p' v' g' s' e' I' sg' r' => q _ _ _ _ _ _ e' I' (up_rep r') (StaysIn.trans sg₁ (StaysIn.trans sg₂ (StaysIn.trans sg₃ sg'))) (sp₁.trans (sp₂.trans sp₃))
      | some x => exact absurd h.symm ho
    | _ =>
      refine Subscript_ (S.e C K ob m σ _ o h ho g ρ s _ E I X fun p v σ₁ s₁ g₁ ρ₁ e₁ I₁ r₁ sg₁ sp₁ => ?_)
      refine S.e C K _ m σ₁ _ o e₁ ho g₁ ρ₁ s₁ _ E I₁ X fun p' v' σ₂ s₂ g₂ ρ₂ e₂ I₂ r₂ sg₂ sp₂ => ?_
      exact sub_ok I₂ e₂ ho (r₁.mono sg₂ sp₂) r₂ fun p₃ v₃ tk e₃ r₃ => q _ _ _ _ _ _ e₃ (I₂.toks tk) (up_rep r₃) (StaysIn.trans sg₁ sg₂) (sp₁.trans sp₂)
  | ListComp elt gens sc pos =>
    induction gens using List.casesOn with
    | nil => exact absurd h.symm ho
    | cons gn rest =>
      induction rest using List.casesOn with
      | cons _ _ => obtain ⟨t, it, ifs, a⟩ := gn; cases t <;> first | exact absurd h.symm ho | (rcases a with a | a <;> first | exact absurd h.symm ho | (cases a <;> exact absurd h.symm ho))
      | nil =>
        obtain ⟨t, it, ifs, a⟩ := gn
        induction t using PySem.Expr.casesOn with
        | Name x px =>
          rcases a with a | a
          · induction a using Nat.casesOn with
            | zero =>
              have h : (match hasFree sc.names with
                | false => br (scOk sc) (evalE C.O C.ns n it m σ (fun v σ => opt (items v) fun xs => compL xs (compF C.O sc.names n x ifs elt) σ fun ys σ => k (.lst ys) σ)) .stuck
                | true => br (scOk2 C.ns m sc) (noX (evalE C.O C.ns n it m σ (fun v σ => opt (items v) fun xs => compL xs (compG C.O (relN sc.names) (relM C.ns m sc.names) n x ifs elt) σ fun ys σ => k (.lst ys) σ))) .stuck) = o := h
              split at h
              · obtain ⟨hsc, h⟩ := br_stuck h ho
                exact listcomp_ok S K I ho hsc h X q
              · obtain ⟨hsc, h⟩ := br_stuck h ho
                exact listcomp_free_ok S K I ho hsc h X q
            | succ _ => exact absurd h.symm ho
          · exact absurd h.symm ho
        | _ => first | exact absurd h.symm ho | (rcases a with a | a <;> first | exact absurd h.symm ho | (cases a <;> exact absurd h.symm ho))
  | Call f args kws pos =>
    induction kws using List.casesOn with
    | cons _ _ => exact absurd h.symm ho
    | nil =>
      induction f using PySem.Expr.casesOn with
      | Attribute ob name ap =>
        obtain ⟨h1, h⟩ := br_stuck h ho
        obtain ⟨h2, h⟩ := br_stuck h ho
        rw [Bool.and_eq_true] at h2
        have hb := plainB_of h ho
        rw [hb] at h
        refine method_call hb h1 h2.1 h2.2 (S.e C K ob m σ _ o h ho g ρ s _ E I X fun p v σ₁ s₁ g₁ ρ₁ e₁ I₁ r₁ sg₁ sp₁ pl => ?_)
        obtain ⟨pm, e₁⟩ := br_stuck e₁ ho
        refine getM_ok K I₁ r₁ pm fun f mv kf => ?_
        refine call_args h2.2 (S.a C K args m σ₁ _ o e₁ ho g₁ ρ₁ s₁ pos _ E I₁ X fun ps vs σ₂ s₂ g₂ ρ₂ e₂ I₂ rs hl sg₂ sp₂ => ?_)
        refine ⟨⟨I₂.kn.kin.keeps I₂.keep, kf⟩, ?_⟩
        exact callM_ok K K.hand (I₂.ready K) I₂ sg₂ sp₂ mv (r₁.mono sg₂ sp₂) rs e₂ ho (fun p' v' σ' s' g' ρ' e' I' r' sg' sp' => q _ _ _ _ _ _ e' I' r' (StaysIn.trans sg₁ (StaysIn.trans sg₂ sg')) (sp₁.trans (sp₂.trans sp'))) X
      | _ =>
        obtain ⟨h1, h⟩ := br_stuck h ho
        refine Call_ (S.e C K _ m σ _ o h ho g ρ s _ E I X fun p v σ₁ s₁ g₁ ρ₁ e₁ I₁ r₁ sg₁ sp₁ => ?_) rfl
        refine call_args (first := []) h1 (S.a C K args m σ₁ _ o e₁ ho g₁ ρ₁ s₁ pos _ E I₁ X fun ps vs σ₂ s₂ g₂ ρ₂ e₂ I₂ rs hl sg₂ sp₂ => ?_)
        obtain ⟨kf, cl⟩ := callF_ok K I₂ e₂ ho (r₁.mono sg₂ sp₂) rs X
        exact ⟨⟨I₂.kn.kin.keeps I₂.keep, kf⟩, cl Q (KP.fut (KP.fut q sg₁ sp₁) sg₂ sp₂)⟩
  | _ => exact absurd h.symm ho

theorem snd : ∀ n, Snd n
  | 0 => snd_zero
  | n + 1 => have S := snd n
    ⟨snd_e S, snd_o S, snd_a S, snd_b S, snd_t S, snd_bt S, snd_c S, snd_i S⟩
end
end Mine
end
section
set_option maxRecDepth 100000
namespace Mine
open PySem PySem.W PyProof.Rows PySem.Spec PySem.Calls PySem.SeqAt

section
variable {C : Cx} {m : Loc} {g : Heap} {ρ : List (Addr × Addr)} {σ : List Cell} {s : Shared} {E : Value → Shared → Prop} {A : Around} {n : Nat}

noncomputable def Stor (C : Cx) : Prop := Free C.mu C.H C.L

theorem setN_store (K : C.Ok) (T : Stor C) (I : At C m g ρ σ s) {x : Str} {p : PV} {v : Value} {k : Loc → Out} {o : Out} (ho : o ≠ .stuck) (h : setN C.ns x p m k = o) (r : RepC g ρ p v) {Q : Unit → Shared → Prop}
    (q : ∀ m' s', k m' = o → At C m' g ρ σ s' → Q () s') : wpAny C.W.M A (storeName C.env x v) Q E s := by
  obtain ⟨i, hs, h⟩ := setN_some h ho
  obtain ⟨lk, _, _⟩ := slot_lookup hs
  obtain ⟨mv, J, l⟩ := I
  refine wpAny_storeName_local (m := mv) (by unfold Env.kindOf; rw [K.names]; exact lk) (by rw [K.loc]; exact J.ns) (fun h' hn sb => ?_) (by rw [K.kind]; rfl)
  rw [K.loc] at hn sb
  exact q _ _ h ⟨_, J.store T sb hn, ⟨l.loc.set hs r, l.os_, l.gens_, l.cel.set hs p⟩⟩
theorem setN_ok (K : C.Ok) (T : Stor C) (I : At C m g ρ σ s) {x : Str} {p : PV} {v : Value} {k : Loc → Out} {o : Out} (ho : o ≠ .stuck) (h : setN C.ns x p m k = o) (r : RepC g ρ p v) {Q : Unit → Shared → Prop}
    (q : ∀ m' s', k m' = o → At C m' g ρ σ s' → Q () s') : wpAny C.W.M A (bindName C.env x v) Q E s := by
  obtain ⟨i, hs, h⟩ := setN_some h ho
  obtain ⟨lk, _, _⟩ := slot_lookup hs
  obtain ⟨mv, J, l⟩ := I
  refine wpAny_bindName (wpAny_storeName_local (m := mv) (by unfold Env.kindOf; rw [K.names]; exact lk) (by rw [K.loc]; exact J.ns) (fun h' hn sb => ?_) (by rw [K.kind]; rfl))
  rw [K.loc] at hn sb
  exact q _ _ h ⟨_, J.store T sb hn, ⟨l.loc.set hs r, l.os_, l.gens_, l.cel.set hs p⟩⟩

theorem setTs_ok (K : C.Ok) (T : Stor C) : ∀ {ts : List PySem.Expr} {ps : List PV} {vs : List Value} {m : Loc} {s : Shared} {k : Loc → Out} {o : Out}, o ≠ .stuck → setTs C.ns ts ps m k = o → At C m g ρ σ s → Reps g ps vs → ∀ {Q : Unit → Shared → Prop},
    (∀ m' s', k m' = o → At C m' g ρ σ s' → Q () s') → wpAny C.W.M A (assignInOrder ((assignEach ts C.env).map (·.2)) vs) Q E s
  | [], [], vs, m, s, k, o, ho, h, I, r, Q, q => by
    dsimp only [Reps] at r
    subst r
    exact wpAny_pure (q m s h I)
  | t :: ts, p :: ps, vs, m, s, k, o, ho, h, I, r, Q, q => by
    dsimp only [Reps] at r
    obtain ⟨v, r', rfl, r1, r2⟩ := r
    induction t using PySem.Expr.casesOn with
    | Name x pos =>
      have h : setN C.ns x p m (fun m => setTs C.ns ts ps m k) = o := h
      show wpAny C.W.M A (do holding r' (assign (.Name x pos) C.env v); assignInOrder ((assignEach ts C.env).map (·.2)) r') Q E s
      refine wpAny_bind (wpAny_holding ?_)
      show wpAny C.W.M A (do standAt pos; bindName C.env x v) _ E s
      exact wpAny_bind (wpAny_standAt (setN_ok K T I ho h (up_rep r1) fun m' s' e I' => setTs_ok K T ho e I' r2 q))
    | _ => exact absurd h.symm ho
  | [], _ :: _, _, _, _, _, _, ho, h, _, _, _, _ => absurd h.symm ho
  | t :: _, [], _, _, _, _, _, ho, h, _, _, _, _ => by induction t using PySem.Expr.casesOn <;> exact absurd h.symm ho

theorem assignEach_len {ns : Names} {env : Env} : ∀ {ts : List PySem.Expr} {ps : List PV} {m : Loc} {k : Loc → Out} {o : Out}, o ≠ .stuck → setTs ns ts ps m k = o → (assignEach ts env).length = ts.length ∧ (assignEach ts env).findIdx? (·.1) = none
  | [], _, _, _, _, _, _ => ⟨rfl, rfl⟩
  | t :: ts, [], _, _, _, ho, h => by induction t using PySem.Expr.casesOn <;> exact absurd h.symm ho
  | t :: ts, p :: ps, m, k, o, ho, h => by
    induction t using PySem.Expr.casesOn with
    | Name x pos =>
      refine nn fun nG => ?_
      obtain ⟨i, hs, h⟩ := setN_some h ho
      obtain ⟨a, b⟩ := assignEach_len (env := env) ho h
      refine nG ?_
      refine ⟨congrArg (· + 1) a, ?_⟩
      show List.findIdx? (·.1) ((false, assign (.Name x pos) env) :: assignEach ts env) = none
      rw [List.findIdx?_cons, b]; rfl
    | _ => exact absurd h.symm ho

theorem draw_list {prog : Program} {w : World} {it t : Addr} {items : Array Value} (hne : t ≠ it) : ∀ (n i : Nat) (s : Shared) (Q : List Value → Shared → Prop), s.heap.IsListIter it t i → s.heap.IsList t items → i + n ≤ items.size →
    (∀ h', h'.IsListIter it t (i + n) → Heap.SameBut it s.heap h' → Q ((items.toList.drop i).take n) { s with heap := h' }) → wpAny (model prog w) A (draw (.ref it) n) Q E s
  | 0, i, s, Q, hit, _, _, hQ => by
    show wpAny _ _ (pure []) Q E s
    exact wpAny_pure (by simpa using hQ s.heap hit (Heap.SameBut.refl ..))
  | n + 1, i, s, Q, hit, ht, hle, hQ => by
    have hlt : i < items.size := by exact chk [_,_,_] (.h 1 (.a (.v 0) (.a (.v 2) (.n 1))) (.v 1) .z) 1 (.a (.v 0) (.n 1)) (.v 1) rfl hle
    show wpAny _ _ (pyNext (.ref it) >>= _) Q E s
    refine wpAny_bind (wpAny_pyNext_list_item hit ht (x := items[i]) (by simp [hlt]) fun h₁ hit₁ hs₁ => ?_)
    refine wpAny_bind (wpAny_holding (draw_list hne n (i + 1) _ _ hit₁ (ht.extBut hs₁.extBut hne) (by exact chk [_,_,_] (.h 1 (.a (.v 0) (.a (.v 1) (.n 1))) (.v 2) .z) 1 (.a (.a (.v 0) (.n 1)) (.v 1)) (.v 2) rfl hle) fun h₂ hit₂ hs₂ => wpAny_pure ?_))
    have hd : items.toList.drop i = items[i] :: items.toList.drop (i + 1) := by simp [List.drop_eq_getElem_cons, hlt]
    have := hQ h₂ (by rw [show i + (n + 1) = i + 1 + n by exact Nat.le_antisymm (chk [_,_] .z 1 (.a (.v 0) (.a (.v 1) (.n 1))) (.a (.a (.v 0) (.n 1)) (.v 1)) rfl) (chk [_,_] .z 1 (.a (.a (.v 0) (.n 1)) (.v 1)) (.a (.v 0) (.a (.v 1) (.n 1))) rfl)]; exact hit₂) (hs₁.trans hs₂)
    rw [hd, List.take_succ_cons] at this
    exact this
theorem unpackItems_list {prog : Program} {w : World} {t : Addr} {items : Array Value} {Q : List Value → Shared → Prop} (hh : A.handled = none) (ht : s.heap.IsList t items)
    (hQ : ∀ h', Heap.ExtBut s.heap.objs.size s.heap h' → Q items.toList { s with heap := h' }) : wpAny (model prog w) A (unpackItems (.ref t) items.size none) Q E s := by
  have hlt : t ≠ s.heap.objs.size := by obtain ⟨o, ho, _⟩ := ht; exact Nat.ne_of_lt (Heap.lt_size ho)
  unfold unpackItems
  refine wpAny_bind ?_
  unfold notIterableAtAll
  refine wpAny_bind (wpAny_specialOf ht.typeIs slot_list_iter.lookup ?_)
  refine wpAny_pure ?_
  dsimp only [Bool.false_eq_true, if_false]
  refine wpAny_bind (wpAny_holding (wpAny_pyIter_list ht ?_))
  have ht0 : ∀ o, (s.heap.push o).IsList t items := fun o => by obtain ⟨x, hx, r⟩ := ht; exact ⟨x, Heap.get?_push_of_some _ hx, r⟩
  refine wpAny_bind (wpAny_holding (draw_list hlt items.size 0 _ _ ⟨_, Heap.get?_push_size _ rfl, rfl, rfl⟩ (ht0 _) (by exact chk [_] .z 1 (.a (.n 0) (.v 0)) (.v 0) rfl) fun h₁ hit₁ hs₁ => ?_))
  have hall : List.take items.size (List.drop 0 items.toList) = items.toList := by
    rw [List.drop_zero]; exact List.take_of_length_le (by simp)
  rw [hall]
  rw [if_neg (by simp)]
  have ht₁ : h₁.IsList t items := (ht0 _).extBut hs₁.extBut hlt
  refine wpAny_bind (wpAny_holding (wpAny_pyNext_list_end hh hit₁ ht₁ (by simp) fun h₂ he₂ => ?_))
  dsimp only [Option.isSome_none, Bool.false_eq_true, if_false]
  refine wpAny_pure (hQ h₂ fun b o hb e => he₂ b o hb (hs₁.extBut b o hb (Heap.get?_push_of_some _ e)))
theorem assign_Tuple_list {prog : Program} {w : World} {env : Env} {elts : List PySem.Expr} {x1} {pos : Pos} {t : Addr} {items : Array Value} {Q : Unit → Shared → Prop} (hh : A.handled = none) (ht : s.heap.IsList t items)
    (hn : (assignEach elts env).length = items.size) (hstar : (assignEach elts env).findIdx? (·.1) = none)
    (h : ∀ h' tk, Heap.ExtBut s.heap.objs.size s.heap h' → wpAny (model prog w) A (assignInOrder ((assignEach elts env).map (·.2)) items.toList) Q E { s with heap := h', toks := tk }) :
    wpAny (model prog w) A (assign (.Tuple elts x1 pos) env (.ref t)) Q E s := by
  skip
  refine wpAny_bind (wpAny_standAt ?_)
  unfold unpack
  rw [hn, hstar]
  exact wpAny_bind (wpAny_holding (unpackItems_list hh ht fun h' eb => h h' s.toks eb))

theorem setT_ok (K : C.Ok) (T : Stor C) (I : At C m g ρ σ s) {t : PySem.Expr} {p : PV} {v : Value} {k : Loc → Out} {o : Out} (ho : o ≠ .stuck) (h : setT C.ns t p m k = o) (r : RepC g ρ p v) {Q : Unit → Shared → Prop} (hA : A.handled = none)
    (q : ∀ m' s', k m' = o → At C m' g ρ σ s' → Q () s') : wpAny C.W.M A (assign t C.env v) Q E s := by
  induction t using PySem.Expr.casesOn with
  | Name x pos =>
    show wpAny C.W.M A (do standAt pos; bindName C.env x v) Q E s
    exact wpAny_bind (wpAny_standAt (setN_ok K T I ho h r q))
  | Tuple ts a b =>
    induction p using PV.casesOn with
    | tup ps =>
      obtain ⟨hl, h⟩ := br_stuck h ho
      have hl := Nat.eq_of_beq_eq_true hl
      have r : Rep g (.tup ps) v := r
      dsimp only [Rep] at r
      obtain ⟨ad, ws, rfl, ht, hr, hz⟩ := r
      have ht' : s.heap.IsTuple ad ws.toArray := by obtain ⟨o, ho, q⟩ := ht; exact ⟨o, I.keep _ _ ho, q⟩
      obtain ⟨l1, l2⟩ := assignEach_len (env := C.env) ho h
      have hlen := hr.length
      refine wpAny_assign_Tuple hA ht' (by rw [l1, hl]; simp [hlen]) l2 fun h' eb => ?_
      have st : s.heap.StaysIn h' := fun b o e => eb b o (Nat.ne_of_lt (Heap.lt_size e)) e
      exact setTs_ok K T ho h (I.grown (tk := s.toks) st) hr q
    | lst ps =>
      obtain ⟨hl, h⟩ := br_stuck h ho
      have hl := Nat.eq_of_beq_eq_true hl
      have r : Rep g (.lst ps) v := r
      dsimp only [Rep] at r
      obtain ⟨ad, ws, rfl, ht, hr, hz⟩ := r
      have ht' : s.heap.IsList ad ws.toArray := by obtain ⟨o, ho, q⟩ := ht; exact ⟨o, I.keep _ _ ho, q⟩
      obtain ⟨l1, l2⟩ := assignEach_len (env := C.env) ho h
      have hlen := hr.length
      refine assign_Tuple_list hA ht' (by rw [l1, hl]; simp [hlen]) l2 fun h' tk eb => ?_
      have st : s.heap.StaysIn h' := fun b o e => eb b o (Nat.ne_of_lt (Heap.lt_size e)) e
      exact setTs_ok K T ho h (I.grown (tk := tk) st) hr q
    | _ => exact absurd h.symm ho
  | _ => exact absurd h.symm ho

theorem setItem_ok {prog : Program} {w : World} {l : Addr} {items : Array Value} {k : Int} {t : Tok} {v : Value} {Q : Unit → Shared → Prop} (hl : LList s.heap l items)
    (h0 : 0 ≤ k) (hfit : k < 2 ^ 63) (hn : k < items.size)
    (hQ : ∀ h', LList h' l (items.setIfInBounds k.toNat v) → Heap.SameBut l s.heap h' → Q () { s with heap := h' }) :
    wpAny (model prog w) A (setItem (.ref l) (.int k t) v) Q E s := by
  obtain ⟨n, sl, ho⟩ := hl
  have hl : s.heap.IsList l items := ⟨_, ho, rfl, n, rfl⟩
  unfold setItem
  try with_reducible refine wpAny_holding ?_
  first | refine wpAny_bind (wpAny_pure ?_) | skip
  refine wpAny_bind (wpAny_sequenceKey hl.typeIs (by decide) ?_)
  refine wpAny_bind (wpAny_callSpecial?_slot (name := Str.ofString "__setitem__") hl.typeIs slot_list_setitem
    (wpAny_call_entry slot_list_setitem hl.typeIs entry_list_setitem ?_ (args_list_setitem _ _ _)))
  show wpAny _ _ (Builtin.List.listSubscript? (.int k t) >>= _) _ _ s
  refine wpAny_bind (wpAny_listSubscript_int (fitsIndex_of h0 hfit) ?_)
  clear hfit
  obtain ⟨j, rfl⟩ := Int.eq_ofNat_of_zero_le h0
  have hj : j < items.size := by omega
  have hx' : items[j]? = some items[j] := Array.getElem?_eq_getElem hj
  show wpAny _ _ ((seqItemAt l j >>= fun r => pure (r.map (j, ·))) >>= _) _ _ s
  refine wpAny_bind (wpAny_bind (wpAny_seqItemAt ho rfl (wpAny_pure ?_)))
  rw [hx']
  show wpAny _ _ (setSeqItemAt l j v >>= _) _ _ s
  have e : Obj.mapSeq (·.setIfInBounds j v) { cls := .type "list", data := .seq items n, slots := sl } = { cls := .type "list", data := .seq (items.setIfInBounds j v) (if items.size < (items.setIfInBounds j v).size then n + 1 else n), slots := sl } := by simp [Obj.mapSeq]
  have hfin : LList (s.heap.update l (Obj.mapSeq (·.setIfInBounds j v))) l (items.setIfInBounds j v) :=
    ⟨_, sl, by rw [Heap.get?_update_self _ ho (by skip; rfl), e]⟩
  refine wpAny_bind (wpAny_setSeqItemAt ho rfl ?_)
  first
    | exact wpAny_bind (wpAny_pure (wpAny_pure ⟨.none, rfl, wpAny_pure (hQ _ hfin (Heap.SameBut.update ..))⟩))
    | exact wpAny_pure ⟨.none, rfl, wpAny_pure (hQ _ hfin (Heap.SameBut.update ..))⟩

theorem reps_set {g : Heap} {p : PV} {v : Value} (r : Rep g p v) : ∀ {ps : List PV} {vs : List Value} (i : Nat), Reps g ps vs → Reps g (ps.set i p) (vs.set i v)
  | [], vs, i, h => by dsimp only [Reps] at h; subst h; simp [Reps]
  | q :: ps, vs, 0, h => by
    dsimp only [Reps] at h
    refine nn fun nG => ?_
    obtain ⟨u, us, rfl, _, h2⟩ := h
    refine nG ?_
    dsimp only [List.set_cons_zero, Reps]
    exact ⟨v, us, rfl, r, h2⟩
  | q :: ps, vs, i + 1, h => by
    dsimp only [Reps] at h
    obtain ⟨u, us, rfl, h1, h2⟩ := h
    dsimp only [List.set_cons_succ, Reps]
    exact ⟨u, _, rfl, h1, reps_set r i h2⟩
set_option tactic.hygienic true in
theorem setSub_ok (I : At C m g ρ σ s) {po pi px : PV} {vo vi vx : Value} {k : List Cell → Out} {o : Out} (ho : o ≠ .stuck) (h : setSub σ po pi px k = o) (ro : RepC g ρ po vo) (ri : RepC g ρ pi vi) (rx : RepC g ρ px vx) {Q : Unit → Shared → Prop}
    (q : ∀ σ' s', k σ' = o → At C m g ρ σ' s' → Q () s') : wpAny C.W.M A (setItem vo vi vx) Q E s := by
  have z := sizeLine_eq
  unfold setSub at h
  split at h
  · rename_i j i
    obtain ⟨t, rfl⟩ := (show ∃ t, vi = .int i t from ri)
    split at h
    · rename_i vs e
      refine nn fun nG => ?_
      obtain ⟨h1, h⟩ := br_stuck h ho
      rw [Bool.and_eq_true, decide_eq_true_eq, decide_eq_true_eq] at h1
      obtain ⟨nc, h⟩ := noCell_some h ho
      have rx := low rx nc
      obtain ⟨p, hp, rfl, hc, ws, hl, hr, hz⟩ := cell_at I ro e
      refine nG ?_
      have hlen := hr.length
      rw [hc]
      have hz : ws.length ≤ 16777216 := by rw [z] at hz; exact hz
      refine setItem_ok hl h1.1 (by omega) (by simp; omega) fun h' hl' sb => ?_
      obtain ⟨mv, II, l⟩ := I
      refine q _ { s with heap := h' } h ⟨mv, II.core hp sb ⟨hc, ws.set i.toNat vx, by simpa using hl', reps_set rx _ hr, by rw [List.length_set]; exact hz⟩ (by intro q; exact Cell.noConfusion q), l⟩
    · exact absurd h.symm ho
  · exact absurd h.symm ho

theorem setNs_ok (K : C.Ok) (T : Stor C) : ∀ {ts : List Str} {ps : List PV} {vs : List Value} {m : Loc} {s : Shared} {k : Loc → Out} {o : Out}, o ≠ .stuck → setNs C.ns ts ps m k = o → At C m g ρ σ s → Reps g ps vs → ∀ {Q : Unit → Shared → Prop},
    (∀ m' s', k m' = o → At C m' g ρ σ s' → Q () s') → wpAny C.W.M A (assignInOrder (ts.map fun n => bindName C.env n) vs) Q E s
  | [], [], vs, m, s, k, o, ho, h, I, r, Q, q => by
    dsimp only [Reps] at r
    subst r
    exact wpAny_pure (q m s h I)
  | x :: ts, p :: ps, vs, m, s, k, o, ho, h, I, r, Q, q => by
    dsimp only [Reps] at r
    obtain ⟨v, r', rfl, r1, r2⟩ := r
    have h : setN C.ns x p m (fun m => setNs C.ns ts ps m k) = o := h
    show wpAny C.W.M A (do holding r' (bindName C.env x v); assignInOrder (ts.map fun n => bindName C.env n) r') Q E s
    exact wpAny_bind (wpAny_holding (setN_ok K T I ho h (up_rep r1) fun m' s' e I' => setNs_ok K T ho e I' r2 q))
  | [], _ :: _, _, _, _, _, _, ho, h, _, _, _, _ => absurd h.symm ho
  | _ :: _, [], _, _, _, _, _, ho, h, _, _, _, _ => absurd h.symm ho

theorem Reps.reverse {g : Heap} : ∀ {ps : List PV} {vs : List Value}, Reps g ps vs → Reps g ps.reverse vs.reverse
  | [], _, h => by dsimp only [Reps] at h; subst h; simp [Reps]
  | p :: ps, _, h => by
    dsimp only [Reps] at h
    refine nn fun nG => ?_
    obtain ⟨v, r, rfl, h1, h2⟩ := h
    refine nG ?_
    rw [List.reverse_cons, List.reverse_cons]
    exact (Reps.reverse h2).append (by dsimp only [Reps]; exact ⟨v, [], rfl, h1, rfl⟩)

theorem swap_ok (K : C.Ok) {ts es : List PySem.Expr} {names : List Str} (h : swapNames C.ns ts es = some names) (a : Nat) (b : Pos) (c : Nat) (d : Pos) : swappedStores [.Tuple ts a b] (.Tuple es c d) C.env = pure (some names) := by
  unfold swapNames at h
  have hb : C.env.blockKind = .function := by unfold Env.blockKind; rw [K.kind]; split <;> rfl
  have hk : ∀ id, C.env.kindOf id = C.ns.lookup id := fun id => by unfold Env.kindOf; rw [K.names]
  split at h
  · nomatch h
  rename_i c1
  split at h
  · nomatch h
  rename_i c2
  dsimp only at h
  split at h
  · nomatch h
  rename_i c3
  split at h
  · nomatch h
  rename_i c4
  split at h
  · exact nns h
  rename_i c5
  unfold swappedStores
  simp only [hb, hk]
  refine (if_neg (fun q => c1 (by simpa using q))).trans ?_
  refine (if_neg c2).trans ?_
  refine (if_neg c3).trans ?_
  refine (if_neg c4).trans ?_
  refine (if_neg c5).trans ?_
  exact congrArg pure h

theorem fold_none {ts es : List PySem.Expr} {env : Env} (h : es.all (foldedForSure 8) = true) (a : Nat) (b : Pos) (c : Nat) (d : Pos) : swappedStores [.Tuple ts a b] (.Tuple es c d) env = pure none := by
  unfold swappedStores
  simp only
  split
  · rfl
  · split
    · rfl
    · split
      · rfl
      · first
        | rfl
        | rw [if_pos h]
theorem noSwap {e : PySem.Expr} {t : Option PySem.Expr} {l : Nat} {env : Env} (h : plainV e = e) (h2 : ∀ a b c d, e ≠ .SetComp a b c d) (h3 : ∀ a b c d f, e ≠ .DictComp a b c d f) : swapsWith e t l env = pure false := by
  induction e using PySem.Expr.casesOn with
  | ListComp a b c d => exfalso; unfold plainV at h; nomatch h
  | SetComp a b c d => exact absurd rfl (h2 a b c d)
  | DictComp a b c d f => exact absurd rfl (h3 a b c d f)
  | _ => rfl
theorem plainV_of {e : PySem.Expr} {k : KV} {r : Out} (h : evalE C.O C.ns n (plainV e) m σ k = r) (hr : r ≠ .stuck) : plainV e = e ∧ ∀ t l env, swapsWith e t l env = pure false := by
  have bad : ∀ e', (∃ x p, e' = PySem.Expr.Starred x p) ∨ (∃ a b c d, e' = .SetComp a b c d) ∨ (∃ a b c d f, e' = .DictComp a b c d f) → evalE C.O C.ns n e' m σ k = r → False := by
    intro e' he h
    induction n using Nat.casesOn with
    | zero => exact hr h.symm
    | succ n => rcases he with ⟨x, p, rfl⟩ | ⟨a, b, c, d, rfl⟩ | ⟨a, b, c, d, f, rfl⟩ <;> (exact hr h.symm)
  have hp : plainV e = e := by
    induction e using PySem.Expr.casesOn with
    | ListComp a b c d => exact (bad _ (.inl ⟨_, _, rfl⟩) h).elim
    | _ => rfl
  refine ⟨hp, fun t l env => ?_⟩
  rw [hp] at h
  exact noSwap hp (fun a b c d q => bad e (.inr (.inl ⟨a, b, c, d, q⟩)) h) (fun a b c d f q => bad e (.inr (.inr ⟨a, b, c, d, f, q⟩)) h)

/- raise of an object -/
theorem raise_of {x : Sem Value} {Q : Flow → Shared → Prop} (h : wpAny C.W.M A x (fun v s₁ => wpAny C.W.M A (raiseStmt C.env (some (pure v)) none) Q E s₁) E s) : wpAny C.W.M A (raiseStmt C.env (some x) none) Q E s := by
  unfold raiseStmt at h ⊢
  exact wpAny_bind (wpAny_mono h (fun v s₁ h₁ => h₁) fun ζ ζ e => e)
theorem raise_ok (K : C.Ok) (I : At C m g ρ σ s) {p : PV} {v : Value} {Q : Flow → Shared → Prop} (hx : isExc σ p = true) (r : RepC g ρ p v) (X : ∀ e s', Sm C s' → XSt C e s'.heap → E (.ref e) s')
    : wpAny C.W.M C.A (raiseStmt C.env (some (pure v)) none) Q E s := by
  have XX := I.kn.kin.keeps I.keep
  obtain ⟨f1, f2⟩ := K.orc.x52
  induction p using PV.casesOn with
  | cell j =>
    unfold isExc at hx
    dsimp only at hx
    split at hx
    · rename_i e
      refine nn fun nG => ?_
      obtain ⟨q, hq, rfl, hc, oe, vs, ho, hcl, hd, h1, a0, h0⟩ := cell_at I r e
      have hg : g.get? q.2 = none := cell_g I (List.mem_of_getElem? hq)
      rw [← hc] at ho hg
      have xs : XSt C q.1 s.heap := by
        obtain ⟨mv, J, l⟩ := I
        exact ⟨g, a0, J.kn, J.st, J.keep, hg, J.ffs, .inl ⟨oe, vs, ho, hcl, hd, h1, h0⟩⟩
      obtain ⟨oc, od, odt, osl⟩ := oe
      refine nG ?_
      dsimp only at hcl hd
      subst hcl hd
      unfold raiseStmt
      refine wpAny_bind (wpAny_pure ?_)
      refine wpAny_bind (wpAny_pure ?_)
      have L1 : Looks C.W.M s.heap (typeOf (.ref q.1)) (.ref 52) := (Looks.ld (part := none) ho).andThen .now
      have L2 : Looks C.W.M s.heap (isInstance (.ref q.1) (.type "BaseException")) true := L1.andThen (looks_subIn XX f1)
      have L0 : Looks C.W.M s.heap (isType (.ref q.1)) false := by
        unfold isType
        exact (Looks.ld (part := none) ho).andThen .now
      have L3 : Looks C.W.M s.heap (typeOf (.ref 52)) (.type "type") := looks_typeIn XX f2
      refine wpAny_bind (wpAny_holding ?_)
      unfold excFromValue isExcClass
      refine wpAny_bind (wpAny_bind (L0.here ?_))
      skip
      refine wpAny_pure ?_
      skip
      refine wpAny_bind (L2.here ?_)
      skip
      refine wpAny_pure ?_
      dsimp only
      refine wpAny_bind (L0.here ?_)
      skip
      unfold raisedInstance
      refine wpAny_bind (wpAny_bind (L1.here (wpAny_bind (L3.here ?_))))
      skip
      refine wpAny_pure ?_
      unfold setFlight
      refine wpAny_bind (wpAny_bind (wpAny_field ho rfl h1 ?_))
      skip
      refine wpAny_pure ?_
      exact wpAny_raiseNew_none K.hand (X _ _ I.sm xs)
    · exact nft hx
  | _ => exact nft hx
end
end Mine
end
section
set_option maxRecDepth 100000
namespace Mine
open PySem PySem.W PyProof.Rows PySem.Spec PySem.Calls PySem.SeqAt

noncomputable def KSP (C : Cx) (g : Heap) (ρ : List (Addr × Addr)) (k : KS) (o : Out) (Q : Shared → Prop) : Prop :=
  ∀ m' σ' s' g' ρ', k m' σ' = o → At C m' g' ρ' σ' s' → g.StaysIn g' → ρ <+: ρ' → Q s'
noncomputable def KRP (C : Cx) (g : Heap) (ρ : List (Addr × Addr)) (k : KV) (o : Out) (Q : Value → Shared → Prop) : Prop :=
  ∀ p v m' σ' s' g' ρ', k p σ' = o → At C m' g' ρ' σ' s' → RepC g' ρ' p v → g.StaysIn g' → ρ <+: ρ' → Q v s'
noncomputable def SX (n : Nat) (C : Cx) : Prop := ∀ ss m σ kn kc kr o, execS C.O C.ns n ss m σ kn kc kr = o → o ≠ .stuck → ∀ g ρ s Q E, At C m g ρ σ s → Ex C E o →
  KSP C g ρ kn o (Q .next) → KSP C g ρ kc o (Q .cont) → KRP C g ρ kr o (fun v => Q (.ret v)) → wpAny C.W.M C.A (execs ss C.env) Q E s

section
variable {C : Cx} {m : Loc} {g : Heap} {ρ : List (Addr × Addr)} {σ : List Cell} {s : Shared} {E : Value → Shared → Prop} {A : Around} {n : Nat}

theorem KSP.fut {g' : Heap} {ρ' : List (Addr × Addr)} {k : KS} {o : Out} {Q : Shared → Prop} (h : KSP C g ρ k o Q) (sg : g.StaysIn g') (sp : ρ <+: ρ') : KSP C g' ρ' k o Q :=
  fun m' σ' s' g₂ ρ₂ e I a b => h m' σ' s' g₂ ρ₂ e I (StaysIn.trans sg a) (sp.trans b)
theorem KRP.fut {g' : Heap} {ρ' : List (Addr × Addr)} {k : KV} {o : Out} {Q : Value → Shared → Prop} (h : KRP C g ρ k o Q) (sg : g.StaysIn g') (sp : ρ <+: ρ') : KRP C g' ρ' k o Q :=
  fun p v m' σ' s' g₂ ρ₂ e I r a b => h p v m' σ' s' g₂ ρ₂ e I r (StaysIn.trans sg a) (sp.trans b)

theorem ex_loop (K : C.Ok) {o : Out} (X : Ex C E o) : Ex C (notedBy C.W.M C.A C.env fun e s' => cameBackBy C.W.M C.A C.env E e s') o := fun he e s' sm x =>
  x_noted K rfl x fun h' xt => x_came K (s := { s' with heap := h' }) xt fun h'' xt' => X he e _ sm xt'.st

/- a while -/
theorem while_ok (S : Snd n) (SX' : SX n C) (K : C.Ok) {N : Nat} {test : PySem.Expr} {body : List Stmt} {pos : Pos} {k : KS} {kr : KV} {o : Out} {Q : Flow → Shared → Prop} (ho : o ≠ .stuck) (X : Ex C E o) (I : At C m g ρ σ s)
    (h : whileL N (fun m σ k => testE C.O C.ns n test m σ k) (fun m σ k => execS C.O C.ns n body m σ k k kr) m σ k = o) (qn : KSP C g ρ k o (Q .next)) (qr : KRP C g ρ kr o (fun v => Q (.ret v))) :
    wpAny C.W.M C.A (exec (.While test body [] pos) C.env) Q E s := by
  refine wpAny_While ?_
  refine codeAny_whileLoop (fun n' s' => ∃ m' σ' g' ρ', whileL n' (fun m σ k => testE C.O C.ns n test m σ k) (fun m σ k => execS C.O C.ns n body m σ k k kr) m' σ' k = o ∧ At C m' g' ρ' σ' s' ∧ g.StaysIn g' ∧ ρ <+: ρ') ?_ N ⟨m, σ, g, ρ, h, I, StaysIn.refl g, List.prefix_refl ρ⟩
  intro n' s' hz9
  refine nn fun nG => ?_
  obtain ⟨m', σ', g', ρ', h', I', sg, sp⟩ := hz9
  refine nG ?_
  induction n' using Nat.casesOn with
  | zero => exact absurd h'.symm ho
  | succ n' =>
    have h' : testE C.O C.ns n test m' σ' (fun c σ => br c (execS C.O C.ns n body m' σ (fun m σ => whileL n' (fun m σ k => testE C.O C.ns n test m σ k) (fun m σ k => execS C.O C.ns n body m σ k k kr) m σ k)
      (fun m σ => whileL n' (fun m σ k => testE C.O C.ns n test m σ k) (fun m σ k => execS C.O C.ns n body m σ k k kr) m σ k) kr) (k m' σ)) = o := h'
    refine S.t C K test m' σ' _ o h' ho g' ρ' s' _ _ I' (ex_loop K X) fun c σ₁ s₁ g₁ ρ₁ e₁ I₁ sg₁ sp₁ => ?_
    induction c using Bool.casesOn with
    | true =>
      skip
      refine SX' body m' σ₁ _ _ kr o e₁ ho g₁ ρ₁ s₁ _ _ I₁ (ex_loop K X) ?_ ?_ ?_
      · intro m₂ σ₂ s₂ g₂ ρ₂ e₂ I₂ sg₂ sp₂
        exact ⟨n', Nat.lt_succ_self _, m₂, σ₂, g₂, ρ₂, e₂, I₂, StaysIn.trans sg (StaysIn.trans sg₁ sg₂), sp.trans (sp₁.trans sp₂)⟩
      · intro m₂ σ₂ s₂ g₂ ρ₂ e₂ I₂ sg₂ sp₂
        exact ⟨n', Nat.lt_succ_self _, m₂, σ₂, g₂, ρ₂, e₂, I₂, StaysIn.trans sg (StaysIn.trans sg₁ sg₂), sp.trans (sp₁.trans sp₂)⟩
      · intro p v m₂ σ₂ s₂ g₂ ρ₂ e₂ I₂ r₂ sg₂ sp₂
        exact qr p v m₂ σ₂ s₂ g₂ ρ₂ e₂ I₂ r₂ (StaysIn.trans sg (StaysIn.trans sg₁ sg₂)) (sp.trans (sp₁.trans sp₂))
    | false =>
      skip
      exact wpAny_execs_nil (qn m' σ₁ s₁ g₁ ρ₁ e₁ I₁ (StaysIn.trans sg sg₁) (sp.trans sp₁))

theorem forLoop_go {prog : Program} {w : World} {A : Around} {R : Result → Shared → Prop} {target : PySem.Expr} {it : Value} {body orelse : List Stmt} {env : Env} (I : Nat → Shared → Prop)
    (turn : ∀ n s, I n s → wpAny (model prog w) A (pyNext it) (fun r s₁ => match r with
      | none => wpAny (model prog w) A (execs orelse env) (fun f s₃ => R (.ok f) s₃) (notedBy (model prog w) A env fun e s' => R (.error e) s') s₁
      | some v => wpAny (model prog w) A (letOwnedTupleGo target it v) (fun ζ s₁ => wpAny (model prog w) A (assign target env v) (fun ζ s₂ => wpAny (model prog w) A (execs body env) (fun f s₃ => match f with
          | .next | .cont => ∃ m, m < n ∧ I m s₃
          | .brk => R (.ok .next) s₃
          | .ret v => R (.ok (.ret v)) s₃) (notedBy (model prog w) A env fun e s' => R (.error e) s') s₂) (notedBy (model prog w) A env fun e s' => R (.error e) s') s₁) (notedBy (model prog w) A env fun e s' => R (.error e) s') s₁) (notedBy (model prog w) A env fun e s' => R (.error e) s') s)
    (n : Nat) (h : I n s) : codeAny (model prog w) A (.forLoop target it body orelse env) R s := by
  refine codeAny_loop' rfl I (fun n s hI => ?_) n h
  show wpAny _ _ ((forTurn target it body orelse env).onRaise (fun x => do noteFrame x env; theTreesLotGoes x)) _ _ s
  refine wpAny_noted ?_
  simp only [forTurn]
  refine wpAny_bind (wpAny_standAt (wpAny_bind (wpAny_onRaise (wpAny_mono (turn n s hI) (fun r s₁ h₁ => ?_) fun ζ ζ h' => wpAny_standAt h'))))
  induction r using Option.casesOn with
  | none => exact wpAny_pure (.inr ⟨rfl, codeAny_block h₁⟩)
  | some v =>
    refine wpAny_bind (wpAny_mono h₁ (fun ζ s₁' h₁' => ?_) fun ζ ζ h' => h')
    refine wpAny_bind (wpAny_mono h₁' (fun ζ s₂ h₂ => wpAny_bind (wpAny_mono h₂ (fun f s₃ h₃ => ?_) fun ζ ζ h' => h')) fun ζ ζ h' => h')
    induction f using PySem.Flow.casesOn with
    | next => exact wpAny_pure (.inl ⟨rfl, h₃⟩)
    | cont => exact wpAny_pure (.inl ⟨rfl, h₃⟩)
    | brk => exact wpAny_pure h₃
    | ret v => exact wpAny_pure h₃

/- a for -/
theorem for_ok (S : Snd n) (SX' : SX n C) (K : C.Ok) (T : Stor C) {t it : PySem.Expr} {body : List Stmt} {pos : Pos} {k : KS} {kr : KV} {o : Out} {Q : Flow → Shared → Prop} (ho : o ≠ .stuck) (X : Ex C E o) (I : At C m g ρ σ s)
    (h : evalE C.O C.ns n it m σ (fun v σ => opt (items v) fun xs => forL xs (fun x m σ k => setT C.ns t x m fun m => execS C.O C.ns n body m σ k k kr) m σ k) = o) (qn : KSP C g ρ k o (Q .next)) (qr : KRP C g ρ kr o (fun v => Q (.ret v))) :
    wpAny C.W.M C.A (exec (.For t it body [] pos) C.env) Q E s := by
  refine wpAny_For ?_ (folded_plain fun a b c q => ?_)
  · refine S.e C K it m σ _ o h ho g ρ s _ E I X fun p v σ₁ s₁ g₁ ρ₁ e₁ I₁ r₁ sg₁ sp₁ => ?_
    obtain ⟨ps, hps, e₁⟩ := opt_some e₁ ho
    refine iter_ok I₁ hps r₁ fun oI fp P St W hst => ?_
    have WW := W.walks C.A K.hand
    have FI := Foreign.new I₁ (a := s₁.heap.objs.size) (Heap.get?_none_of_le (Nat.le_refl _))
    have I₂ : At C m g₁ ρ₁ σ₁ { s₁ with heap := s₁.heap.push oI } := I₁.grown (stays_push _ _)
    have GI : C.G.get? s₁.heap.objs.size = none := by
      induction q : C.G.get? s₁.heap.objs.size using Option.casesOn with
      | none => rfl
      | some o' =>
        obtain ⟨mv, J, _⟩ := I₁
        have := J.keep _ _ (J.st.gg _ _ q)
        exact absurd (Heap.lt_size this) (Nat.lt_irrefl _)
    generalize s₁.heap.objs.size = It at *
    refine forLoop_go (fun n' s' => ∃ i m' σ' g' ρ', n' = ps.length - i ∧ i ≤ ps.length ∧ forL (ps.drop i) (fun x m σ k => setT C.ns t x m fun m => execS C.O C.ns n body m σ k k kr) m' σ' k = o ∧ At C m' g' ρ' σ' s' ∧ St i s'.heap ∧ Foreign C g' ρ' It ∧ g₁.StaysIn g' ∧ ρ₁ <+: ρ')
      ?_ ps.length ⟨0, m, σ₁, g₁, ρ₁, rfl, Nat.zero_le _, e₁, I₂, hst, FI, StaysIn.refl _, List.prefix_refl _⟩
    intro n' s₀ hz9
    refine nn fun nG => ?_
    obtain ⟨i, m₀, σ₀, g₀, ρ₀, rfl, hi, hc, I₀, st₀, FI₀, sg₀, sp₀⟩ := hz9
    refine nG ?_
    by_cases hlt : i < ps.length
    · refine WW.item i s₀ _ _ hlt st₀ fun v h' tk hP st₂ hk => ?_
      have hk : ∀ b o, b ≠ It → s₀.heap.get? b = some o → h'.get? b = some o := fun b o hb e => hk b o (by simpa using hb) e
      refine nn fun nG => ?_
      obtain ⟨p, hp, rp⟩ := W.rep i v hlt hP
      have J₂ : At C m₀ g₀ ρ₀ σ₀ { s₀ with heap := h', toks := tk } := I₀.extBut FI₀ hk
      have hdrop : ps.drop i = p :: ps.drop (i + 1) := by
        obtain ⟨hl, e⟩ := List.getElem?_eq_some_iff.mp hp
        rw [List.drop_eq_getElem_cons hl, e]
      rw [hdrop] at hc
      have hc : setT C.ns t p m₀ (fun m => execS C.O C.ns n body m σ₀ (fun m σ => forL (ps.drop (i + 1)) (fun x m σ k => setT C.ns t x m fun m => execS C.O C.ns n body m σ k k kr) m σ k)
        (fun m σ => forL (ps.drop (i + 1)) (fun x m σ k => setT C.ns t x m fun m => execS C.O C.ns n body m σ k k kr) m σ k) kr) = o := hc
      obtain ⟨oI', hoI, itI⟩ := W.itr _ _ st₂
      refine nG ?_
      dsimp only
      refine go_ok (s := { s₀ with heap := h', toks := tk }) hoI itI ?_
      refine nn fun nG => ?_
      obtain ⟨J₄, sg₄, gI⟩ := J₂.show hoI itI.not.1 FI₀.c
      refine nG ?_
      have rpc : RepC (Mine.ext g₀ h' [It]) ρ₀ p v := up_rep ((rp.mono sg₀).mono sg₄)
      refine setT_ok K T J₄ ho hc rpc K.hand fun m₅ s₅ e₅ J₅ => ?_
      have back : ∀ f (hf : f = Flow.next ∨ f = Flow.cont), KSP C (Mine.ext g₀ h' [It]) ρ₀ (fun m σ => forL (ps.drop (i + 1)) (fun x m σ k => setT C.ns t x m fun m => execS C.O C.ns n body m σ k k kr) m σ k) o fun s' =>
          ∃ n₂, n₂ < ps.length - i ∧ ∃ i m' σ' g' ρ', n₂ = ps.length - i ∧ i ≤ ps.length ∧ forL (ps.drop i) (fun x m σ k => setT C.ns t x m fun m => execS C.O C.ns n body m σ k k kr) m' σ' k = o ∧ At C m' g' ρ' σ' s' ∧ St i s'.heap ∧ Foreign C g' ρ' It ∧ g₁.StaysIn g' ∧ ρ₁ <+: ρ' := by
        intro f hf m₆ σ₆ s₆ g₆ ρ₆ e₆ J₆ sg₆ sp₆
        have gI₆ := sg₆ _ _ gI
        refine nn fun nG => ?_
        obtain ⟨J₇, sg₇, rc₇⟩ := J₆.hide gI₆ itI.not (g₀ := g₀) I₀.kn (StaysIn.trans sg₄ sg₆) FI₀.g GI
        refine nG ?_
        have cI : ∀ p ∈ ρ₆, p.2 ≠ It := fun p hp q => by
          have := cell_g J₆ hp
          rw [q, gI₆] at this; exact nsn this
        refine ⟨ps.length - (i + 1), by omega, i + 1, m₆, σ₆, g₆.hide It, ρ₆, rfl, hlt, e₆, J₇, ?_, ⟨Heap.hide_self _ _, FI₀.L, cI, FI₀.f, FI₀.H⟩, StaysIn.trans sg₀ sg₇, sp₀.trans sp₆⟩
        refine WW.frame _ _ _ st₂ fun b hb o' e => ?_
        rcases W.fps b hb with q' | ⟨o₂, e'⟩
        · rw [q', hoI] at e; cases e
          rw [q']; exact J₆.keep _ _ gI₆
        · have e₁ := sg₀ _ _ e'
          have e₃ : h'.get? b = some o₂ := J₂.keep _ _ e₁
          have : o' = o₂ := by rw [e] at e₃; exact Option.some.inj e₃
          rw [this]
          exact J₆.keep _ _ (sg₆ _ _ (sg₄ _ _ e₁))
      refine SX' body m₅ σ₀ _ _ kr o e₅ ho _ ρ₀ s₅ _ _ J₅ (ex_loop K X) (back .next (.inl rfl)) (back .cont (.inr rfl)) ?_
      intro p' v' m₆ σ₆ s₆ g₆ ρ₆ e₆ J₆ r₆ sg₆ sp₆
      exact qr p' v' m₆ σ₆ s₆ g₆ ρ₆ e₆ J₆ r₆ (StaysIn.trans sg₁ (StaysIn.trans sg₀ (StaysIn.trans sg₄ sg₆))) (sp₁.trans (sp₀.trans sp₆))
    · have hi' : i = ps.length := by exact Nat.le_antisymm (chk [_,_] (.h 2 (.v 0) (.v 1) (.h 1 (.v 1) (.v 0) .z)) 1 (.v 0) (.v 1) rfl hi (Nat.le_of_not_lt hlt)) (chk [_,_] (.h 1 (.v 0) (.v 1) (.h 2 (.v 1) (.v 0) .z)) 1 (.v 1) (.v 0) rfl hi (Nat.le_of_not_lt hlt))
      subst hi'
      rw [List.drop_length] at hc
      have hc : k m₀ σ₀ = o := hc
      refine WW.done s₀ _ _ st₀ fun h' tk hk => ?_
      have hk : ∀ b o, b ≠ It → s₀.heap.get? b = some o → h'.get? b = some o := fun b o hb e => hk b o (by simpa using hb) e
      exact wpAny_execs_nil (qn m₀ σ₀ { s₀ with heap := h', toks := tk } g₀ ρ₀ hc (I₀.extBut FI₀ hk) (StaysIn.trans sg₁ sg₀) (sp₁.trans sp₀))
  · subst q
    induction n using Nat.casesOn with
    | zero => exact ho h.symm
    | succ n => exact ho h.symm

theorem snd_x (S : Snd n) (K : C.Ok) (T : Stor C) (SX' : SX n C) : SX (n + 1) C := by
  intro ss m σ kn kc kr o h ho g ρ s Q E I X qn qc qr
  induction ss using List.casesOn with
  | nil => exact wpAny_execs_nil (qn m σ s g ρ h I (StaysIn.refl g) (List.prefix_refl ρ))
  | cons st rest =>
    have go : ∀ {m' σ' s' g' ρ'}, execS C.O C.ns n rest m' σ' kn kc kr = o → At C m' g' ρ' σ' s' → g.StaysIn g' → ρ <+: ρ' → wpAny C.W.M C.A (execs rest C.env) Q E s' := fun e' I' sg sp =>
      SX' rest _ _ kn kc kr o e' ho _ _ _ Q E I' X (qn.fut sg sp) (qc.fut sg sp) (qr.fut sg sp)
    refine wpAny_execs_cons ?_
    induction st using PySem.Stmt.casesOn with
    | Return e pos =>
      induction e using Option.casesOn with
      | none => exact wpAny_Return_none (qr .none .none m σ s g ρ h I (show RepC g ρ .none _ from rfl) (StaysIn.refl g) (List.prefix_refl ρ))
      | some e =>
        have plain : evalE C.O C.ns n e m σ kr = o → wpAny C.W.M C.A (exec (.Return (some e) pos) C.env) (fun f s' => match f with | .next => wpAny C.W.M C.A (execs rest C.env) Q E s' | f => Q f s') E s := fun h =>
          wpAny_Return_some (S.e C K e m σ kr o h ho g ρ s _ E I X fun p v σ₁ s₁ g₁ ρ₁ e₁ I₁ r₁ sg₁ sp₁ => qr p v m σ₁ s₁ g₁ ρ₁ e₁ I₁ r₁ sg₁ sp₁)
        induction e using PySem.Expr.casesOn with
        | List es lp =>
          induction es using List.casesOn with
          | nil => exact plain h
          | cons e es =>
            obtain ⟨hn, h⟩ := br_stuck h ho
            have hn : es.length < 100 := by simpa [Nat.blt_eq] using hn
            refine wpAny_Return_some ?_
            skip
            refine wpAny_bind (wpAny_standAt (wpAny_bind (S.a C K (e :: es) m σ _ o h ho g ρ s lp _ E I X fun ps vs σ₁ s₁ g₁ ρ₁ e₁ I₁ r₁ hl sg₁ sp₁ => ?_)))
            obtain ⟨nc, e₁⟩ := br_stuck e₁ ho
            have rr := lows r₁ nc
            have hz : vs.length ≤ sizeLine := by rw [rr.length, hl]; exact Nat.lt_trans hn (by decide)
            have hn : s₁.heap.get? s₁.heap.objs.size = none := Heap.get?_none_of_le (Nat.le_refl _)
            have F := Foreign.new I₁ hn
            refine wpAny_newList ?_ hz
            have I₂ : At C m g₁ ρ₁ σ₁ { s₁ with heap := s₁.heap.push { cls := .type "list", data := .seq vs.toArray } } := I₁.grown (stays_push _ _)
            obtain ⟨I₃, sp⟩ := I₂.fresh (x := s₁.heap.objs.size) (core := s₁.heap.objs.size) (c := .list ps) ⟨rfl, vs, ⟨0, #[], Heap.get?_push_size _ rfl⟩, rr, hz⟩ F.g F.L (fun o ho hn => by cases F.H o ho hn) F.c
            have hl : σ₁.length = ρ₁.length := by obtain ⟨_, J, _⟩ := I₁; exact J.cells.len.symm
            refine qr (.cell σ₁.length) _ m _ _ g₁ _ e₁ I₃ ⟨(s₁.heap.objs.size, s₁.heap.objs.size), ?_, rfl⟩ sg₁ (sp₁.trans sp)
            rw [hl, List.getElem?_append_right (Nat.le_refl _)]
            simp
        | _ => exact plain h
    | Assign ts e pos =>
      induction ts using List.casesOn with
      | nil => exact absurd h.symm ho
      | cons t tr =>
        induction tr using List.casesOn with
        | cons _ _ => cases t <;> exact absurd h.symm ho
        | nil =>
          induction t using PySem.Expr.casesOn with
          | Attribute ob name ap =>
            have h : evalE C.O C.ns n (plainV e) m σ (fun v σ => evalE C.O C.ns n ob m σ fun ov σ => setAttrC C.O σ ov name v fun σ => execS C.O C.ns n rest m σ kn kc kr) = o := h
            obtain ⟨hp, hs⟩ := plainV_of h ho
            rw [hp] at h
            refine plainObj_wpAny_Assign_Attribute (S.e C K e m σ _ o h ho g ρ s _ E I X fun p v σ₁ s₁ g₁ ρ₁ e₁ I₁ r₁ sg₁ sp₁ => ?_) (hs _ _ _)
            refine S.e C K ob m σ₁ _ o e₁ ho g₁ ρ₁ s₁ _ E I₁ X fun p₂ v₂ σ₂ s₂ g₂ ρ₂ e₂ I₂ r₂ sg₂ sp₂ => ?_
            exact set_ok K I₂ e₂ ho r₂ (r₁.mono sg₂ sp₂) fun σ₃ s₃ e₃ I₃ => go e₃ I₃ (StaysIn.trans sg₁ sg₂) (sp₁.trans sp₂)
          | Subscript ob ix sp =>
            have plain : (∀ a b c d, ix ≠ .Slice a b c d) → evalE C.O C.ns n (plainV e) m σ (fun v σ => evalE C.O C.ns n ob m σ fun ov σ => evalE C.O C.ns n ix m σ fun iv σ => setSub σ ov iv v fun σ => execS C.O C.ns n rest m σ kn kc kr) = o → wpAny C.W.M C.A (exec (.Assign [.Subscript ob ix sp] e pos) C.env) (fun f s' => match f with | .next => wpAny C.W.M C.A (execs rest C.env) Q E s' | f => Q f s') E s := by
              intro _ h
              refine nn fun nG => ?_
              obtain ⟨hp, hs⟩ := plainV_of h ho
              refine nG ?_
              rw [hp] at h
              refine wpAny_Assign_Subscript (S.e C K e m σ _ o h ho g ρ s _ E I X fun p v σ₁ s₁ g₁ ρ₁ e₁ I₁ r₁ sg₁ sp₁ => ?_) (hs _ _ _)
              refine S.e C K ob m σ₁ _ o e₁ ho g₁ ρ₁ s₁ _ E I₁ X fun p₂ v₂ σ₂ s₂ g₂ ρ₂ e₂ I₂ r₂ sg₂ sp₂ => ?_
              refine S.e C K ix m σ₂ _ o e₂ ho g₂ ρ₂ s₂ _ E I₂ X fun p₃ v₃ σ₃ s₃ g₃ ρ₃ e₃ I₃ r₃ sg₃ sp₃ => ?_
              exact setSub_ok I₃ ho e₃ (r₂.mono sg₃ sp₃) r₃ (r₁.mono (StaysIn.trans sg₂ sg₃) (sp₂.trans sp₃)) fun σ₄ s₄ e₄ I₄ => go e₄ I₄ (StaysIn.trans sg₁ (StaysIn.trans sg₂ sg₃)) (sp₁.trans (sp₂.trans sp₃))
            induction ix using PySem.Expr.casesOn with
            | Slice a b c d => exact absurd h.symm ho
            | _ => exact plain (fun a b c d q => by cases q) h
          | Name x xp =>
            have h : evalE C.O C.ns n (plainV e) m σ (fun v σ => setN C.ns x v m fun m => execS C.O C.ns n rest m σ kn kc kr) = o := h
            refine nn fun nG => ?_
            obtain ⟨hp, hs⟩ := plainV_of h ho
            refine nG ?_
            rw [hp] at h
            exact wpAny_Assign_Name (S.e C K e m σ _ o h ho g ρ s _ E I X fun p v σ₁ s₁ g₁ ρ₁ e₁ I₁ r₁ sg₁ sp₁ => setN_store K T I₁ ho e₁ r₁ fun m₂ s₂ e₂ I₂ => go e₂ I₂ sg₁ sp₁) (hs _ _ _)
          | Tuple tl a b =>
            have plain : (∀ es c d, e ≠ .Tuple es c d) → evalE C.O C.ns n (plainV e) m σ (fun v σ => setT C.ns (.Tuple tl a b) v m fun m => execS C.O C.ns n rest m σ kn kc kr) = o → wpAny C.W.M C.A (exec (.Assign [.Tuple tl a b] e pos) C.env) (fun f s' => match f with | .next => wpAny C.W.M C.A (execs rest C.env) Q E s' | f => Q f s') E s := by
              intro hne h
              obtain ⟨hp, hs⟩ := plainV_of h ho
              rw [hp] at h
              refine Assign_Tuple (S.e C K e m σ _ o h ho g ρ s _ E I X fun p v σ₁ s₁ g₁ ρ₁ e₁ I₁ r₁ sg₁ sp₁ => setT_ok K T I₁ ho e₁ r₁ K.hand fun m₂ s₂ e₂ I₂ => go e₂ I₂ sg₁ sp₁) (show swapsWith e (some (.Tuple tl a b)) pos.line C.env = pure false from hs _ _ _) ?_
              induction e using PySem.Expr.casesOn with
              | Tuple es c d => exact absurd rfl (hne es c d)
              | _ => rfl
            induction e using PySem.Expr.casesOn with
            | ListComp ca cb cc cd =>
              refine Assign_Tuple (S.e C K (.ListComp ca cb cc cd) m σ _ o h ho g ρ s _ E I X fun p v σ₁ s₁ g₁ ρ₁ e₁ I₁ r₁ sg₁ sp₁ => setT_ok K T I₁ ho e₁ r₁ K.hand fun m₂ s₂ e₂ I₂ => go e₂ I₂ sg₁ sp₁) rfl rfl
            | Tuple es c d =>
              have h : (match es.all (foldedForSure 8) with
                | true => evalE C.O C.ns n (.Tuple es c d) m σ fun v σ => setT C.ns (.Tuple tl a b) v m fun m => execS C.O C.ns n rest m σ kn kc kr
                | false => opt (swapNames C.ns tl es) fun names => evalE C.O C.ns n (.Tuple es c d) m σ fun v σ => match v with
                  | .tup vs => br (Nat.beq names.length vs.length) (setNs C.ns names.reverse vs.reverse m fun m => execS C.O C.ns n rest m σ kn kc kr) .stuck
                  | _ => .stuck) = o := h
              split at h
              · rename_i hf
                exact Assign_Tuple (S.e C K (.Tuple es c d) m σ _ o h ho g ρ s _ E I X fun p v σ₁ s₁ g₁ ρ₁ e₁ I₁ r₁ sg₁ sp₁ => setT_ok K T I₁ ho e₁ r₁ K.hand fun m₂ s₂ e₂ I₂ => go e₂ I₂ sg₁ sp₁) rfl (fold_none hf _ _ _ _)
              obtain ⟨names, hn, h⟩ := opt_some h ho
              have hs : swapsWithSole [.Tuple tl a b] (.Tuple es c d) pos.line C.env = pure false := rfl
              refine Assign_Tuple_swapped (S.e C K (.Tuple es c d) m σ _ o h ho g ρ s _ E I X fun p v σ₁ s₁ g₁ ρ₁ e₁ I₁ r₁ sg₁ sp₁ => ?_) hs (swap_ok K hn a b c d)
              induction p using PV.casesOn with
              | tup ps =>
                refine nn fun nG => ?_
                obtain ⟨hl, e₁⟩ := br_stuck e₁ ho
                have hl := Nat.eq_of_beq_eq_true hl
                have r : Rep g₁ (.tup ps) v := r₁
                simp only [Rep] at r
                obtain ⟨ad, ws, rfl, ht, hr, hz⟩ := r
                refine nG ?_
                have ht' : IsTup s₁.heap ad ws.toArray := by obtain ⟨o, ho, q⟩ := ht; exact ⟨o, I₁.keep _ _ ho, q⟩
                have hlen := hr.length
                have hsz : names.length = ws.toArray.size := by simp; exact Nat.le_antisymm (chk [_,_,_] (.h 1 (.v 0) (.v 2) (.h 1 (.v 2) (.v 1) .z)) 1 (.v 0) (.v 1) rfl (Nat.le_of_eq hl) (Nat.le_of_eq (Eq.symm hlen))) (chk [_,_,_] (.h 1 (.v 2) (.v 0) (.h 1 (.v 1) (.v 2) .z)) 1 (.v 1) (.v 0) rfl (Nat.le_of_eq (Eq.symm hl)) (Nat.le_of_eq hlen))
                rw [hsz]
                refine unpackItems_tuple K.hand ht' fun h' eb => ?_
                have st : s₁.heap.StaysIn h' := fun b o e => eb b o (Nat.ne_of_lt (Heap.lt_size e)) e
                exact setNs_ok K T ho e₁ (I₁.grown (tk := s₁.toks) st) hr.reverse fun m₂ s₂ e₂ I₂ => go e₂ I₂ sg₁ sp₁
              | _ => exact absurd e₁.symm ho
            | _ => exact plain (fun es c d q => by cases q) h
          | _ => exact absurd h.symm ho
    | Expr e pos =>
      have h : evalE C.O C.ns n (plainV e) m σ (fun ζ σ => execS C.O C.ns n rest m σ kn kc kr) = o := h
      obtain ⟨hp, hs⟩ := plainV_of h ho
      rw [hp] at h
      exact wpAny_Expr_any (S.e C K e m σ _ o h ho g ρ s _ E I X fun p v σ₁ s₁ g₁ ρ₁ e₁ I₁ r₁ sg₁ sp₁ => go e₁ I₁ sg₁ sp₁) (by unfold interactive; rw [K.kind]; rfl) (hs _ _ _)
    | If t b e pos =>
      refine wpAny_If (S.t C K t m σ _ o h ho g ρ s _ E I X fun c σ₁ s₁ g₁ ρ₁ e₁ I₁ sg₁ sp₁ => ?_)
      have q₁ : KSP C g₁ ρ₁ (fun m σ => execS C.O C.ns n rest m σ kn kc kr) o fun s' => wpAny C.W.M C.A (execs rest C.env) Q E s' := fun m₂ σ₂ s₂ g₂ ρ₂ e₂ I₂ sg₂ sp₂ => go e₂ I₂ (StaysIn.trans sg₁ sg₂) (sp₁.trans sp₂)
      induction c using Bool.casesOn with
      | true => skip; exact SX' b m σ₁ _ kc kr o e₁ ho g₁ ρ₁ s₁ _ E I₁ X q₁ (qc.fut sg₁ sp₁) (qr.fut sg₁ sp₁)
      | false => skip; exact SX' e m σ₁ _ kc kr o e₁ ho g₁ ρ₁ s₁ _ E I₁ X q₁ (qc.fut sg₁ sp₁) (qr.fut sg₁ sp₁)
    | While t b e pos =>
      induction e using List.casesOn with
      | cons _ _ => exact absurd h.symm ho
      | nil => exact while_ok S SX' K ho X I h (fun m₂ σ₂ s₂ g₂ ρ₂ e₂ I₂ sg₂ sp₂ => go e₂ I₂ sg₂ sp₂) qr
    | For t it b e pos =>
      induction e using List.casesOn with
      | cons _ _ => exact absurd h.symm ho
      | nil => exact for_ok S SX' K T ho X I h (fun m₂ σ₂ s₂ g₂ ρ₂ e₂ I₂ sg₂ sp₂ => go e₂ I₂ sg₂ sp₂) qr
    | Raise e c pos =>
      induction e using Option.casesOn with
      | none => exact absurd h.symm ho
      | some e =>
        induction c using Option.casesOn with
        | some _ => exact absurd h.symm ho
        | none =>
          have h : evalE C.O C.ns n e m σ (fun v σ => br (isExc σ v) .exc .stuck) = o := h
          skip
          refine wpAny_bind (wpAny_standAt ?_)
          refine raise_of (x := do let v ← eval e C.env; standAt pos; pure v) (wpAny_bind (S.e C K e m σ _ o h ho g ρ s _ E I X fun p v σ₁ s₁ g₁ ρ₁ e₁ I₁ r₁ sg₁ sp₁ => wpAny_bind (wpAny_standAt (wpAny_pure ?_))))
          obtain ⟨hx, e₁⟩ := br_stuck e₁ ho
          exact raise_ok K I₁ hx r₁ fun e' s' sm x => X e₁.symm e' s' sm x
    | Continue pos => exact wpAny_Continue (qc m σ s g ρ h I (StaysIn.refl g) (List.prefix_refl ρ))
    | _ => exact absurd h.symm ho

theorem snd_xs (K : C.Ok) (T : Stor C) : ∀ n, SX n C
  | 0 => fun ss m σ kn kc kr o h ho => (ho h.symm).elim
  | n + 1 => snd_x (snd n) K T (snd_xs K T n)
end
end Mine
end
section
set_option maxRecDepth 100000
namespace Mine
open PySem PySem.W PyProof.Rows PySem.Spec PySem.Calls PySem.SeqAt

structure FnFacts (W : Wd) (a : Addr) (fd : FuncData) (body : List Stmt) (ns : Names) (xs : List Str) : Prop where
  look : ∃ oc od osl, W.K.lookup a = some ⟨oc, od, .func fd, osl⟩
  code : codeIn W.K fd.code fd.qualname = true
  body : fd.body = .stmts body
  names : fd.scope.names = ns
  glob : fd.globals = mainGlobals
  clos : fd.closure = []
  bui : fd.builtins = builtinsNs
  kind : fd.scope.kind = .function
  co : fd.scope.isCoroutine = false
  gen : fd.scope.isGenerator = false
  cell : ∀ x ∈ fd.scope.names, x.2 ≠ .cell
  bind : ∀ vs : List Value, vs.length = xs.length → ∀ s : Shared, W.K.In s.heap → BindsTo s fd ⟨vs, []⟩ (xs.zip vs)
  loc : ∀ x ∈ xs, ns.lookup x = some .local
  keep : keepIn W.K (.ref a) = true

section
variable {W : Wd} {rm : Nat} {O : Orc} {a : Addr} {fd : FuncData} {body : List Stmt} {ns : Names} {xs : List Str}

theorem lookup_slot {x : Str} : ∀ {ns : Names} {i : Nat} {k : NameKind}, ns.lookup x = some k → ∃ j, slot x ns i = some (j, k)
  | [], _, _, h => by exact nns h
  | (y, k') :: r, i, k, h => by
    unfold slot
    induction q : seq y x using Bool.casesOn with
    | true =>
      have := seq_iff.mp q
      subst this
      rw [List.lookup_cons_self] at h
      cases h
      exact ⟨i, rfl⟩
    | false =>
      have : (x == y) = false := beq_eq_false_iff_ne.mpr fun e => seq_false q e.symm
      rw [List.lookup, this] at h
      exact lookup_slot h

theorem initL_ok {g : Heap} {ρ : List (Addr × Addr)} : ∀ {xs : List Str} {ps : List PV} {vs : List Value} {m : Loc} {done : List (Str × Value)}, (∀ x ∈ xs, ns.lookup x = some .local) → RepsC g ρ ps vs → ps.length = xs.length → LocOk ns m (fun y => done.reverse.lookup y) g ρ →
    LocOk ns (initL ns m xs ps) (fun y => (done ++ xs.zip vs).reverse.lookup y) g ρ
  | [], ps, vs, m, done, _, r, hl, l => by
    induction ps using List.casesOn with
    | nil =>
      simp only [RepsC] at r
      subst r
      simpa [initL] using l
    | cons _ _ => cases hl
  | x :: xs, [], vs, m, done, _, r, hl, l => by cases hl
  | x :: xs, p :: ps, vs, m, done, hx, r, hl, l => by
    simp only [RepsC] at r
    refine nn fun nG => ?_
    obtain ⟨v, r', rfl, r1, r2⟩ := r
    obtain ⟨i, hs⟩ := lookup_slot (i := 0) (hx x (.head _))
    refine nG ?_
    have e : initL ns m (x :: xs) (p :: ps) = initL ns (m.set i (some p)) xs ps := by
      show (match slot x ns 0 with
        | some (i, .local) => initL ns (m.set i (some p)) xs ps
        | some (i, .cell) => initL ns (m.set i (some p)) xs ps
        | _ => m) = _
      rw [hs]
    rw [e]
    have l' := LocOk.set l hs r1
    rw [← lookup_reverse_snoc done x v] at l'
    have := initL_ok (done := done ++ [(x, v)]) (fun y hy => hx y (.tail _ hy)) r2 (by simpa using hl) l'
    simpa using this

/- the context of a call -/
noncomputable abbrev callCx (W : Wd) (A : Around) (envs : List Env) (env : Env) (L : Addr) (mu : List Addr) (g : Heap) (s : Shared) (ns : Names) (O : Orc) (rm : Nat) : Cx := ⟨W, A.deeper env, env, env :: envs, L, L, mu, g, s.heap, ns, O, rm, s.os, s.gens⟩

theorem fn_call (F : FnFacts W a fd body ns xs) (OK : OrcOk W rm O) {envs : List Env} {A : Around} {g : Heap} {s : Shared} (R : Ready W envs A (rm + 1) g s) {ρ : List (Addr × Addr)} {σ : List Cell} {ps : List PV} {vs : List Value} (ra : RepsC g ρ ps vs) (hl : ps.length = xs.length)
    (hρ : ∀ p ∈ ρ, g.get? p.2 = none ∧ ∃ o, s.heap.get? p.2 = some o) (hnd : (ρ.map (·.2)).Nodup) (hc : Cells g s.heap ρ σ) {Q E : Value → Shared → Prop}
    (run : ∀ (C : Cx) (s₀ : Shared), C.Ok → Stor C → C.W = W → C.O = O → C.ns = ns → C.G = g → C.H = s.heap → C.mu = ρ.map (·.2) → (∃ env, C.envs = env :: envs) → (∀ s', Sm C s' → Same s s') → At C (initL ns (ns.map fun ζ => .none) xs ps) g ρ σ s₀ → s.heap.StaysIn s₀.heap →
      wpAny C.W.M C.A (execs body C.env) (fun f s' => Q (match f with | .ret v => v | _ => .none) s') (fun e s' => ∃ e', e = .ref e' ∧ Sm C s' ∧ XSt C e' s'.heap ∧ ∀ g' a0 s'', Kn W g' → Step (ρ.map (·.2)) g s.heap g' s''.heap → Heap.FlyingW g' envs e' (.ref 52) a0 s''.heap → Same s s'' → E (.ref e') s'') s₀) :
    codeAny W.M A (.call (.ref a) ⟨vs, []⟩) (fun r s' => match r with | .ok (.ret v) => Q v s' | .ok _ => False | .error e => E e s') s := by
  refine nn fun nG => ?_
  obtain ⟨oc, od, osl, ho⟩ := F.look
  refine nG ?_
  have X := R.kn.kin.keeps R.keep
  have hlen : vs.length = ps.length := by
    have : ∀ {ps : List PV} {vs : List Value}, RepsC g ρ ps vs → vs.length = ps.length := by
      intro ps
      induction ps with
      | nil => intro vs h; simp only [RepsC] at h; subst h; rfl
      | cons p ps ih => intro vs h; simp only [RepsC] at h; obtain ⟨v, r, rfl, _, h2⟩ := h; simp [ih h2]
    exact this ra
  have hd := R.dep
  have hu := R.un
  refine codeAny_call_def (fd := fd) (body := body) (binds := xs.zip vs) (by exact chk [_,_,_] (.h 1 (.a (.a (.v 0) (.a (.v 2) (.n 1))) (.n 1)) (.v 1) .z) 1 (.a (.v 0) (.n 1)) (.v 1) rfl hd) (X _ _ ho) rfl (R.kn.top.nolimit.keeps R.keep) (codeRec_of X F.code) F.body (F.bind vs (by exact Nat.le_antisymm (chk [_,_,_] (.h 1 (.v 2) (.v 1) (.h 1 (.v 0) (.v 2) .z)) 1 (.v 0) (.v 1) rfl (Nat.le_of_eq hl) (Nat.le_of_eq hlen)) (chk [_,_,_] (.h 1 (.v 1) (.v 2) (.h 1 (.v 2) (.v 0) .z)) 1 (.v 1) (.v 0) rfl (Nat.le_of_eq (Eq.symm hl)) (Nat.le_of_eq (Eq.symm hlen)))) s X) F.cell (fun x hx => ?_) (fun h₀ hns hk => ?_) F.co F.gen F.kind
  · rw [F.names]
    exact F.loc x.1 (List.of_mem_zip hx).1
  · have eL : (callEnv fd s.heap.objs.size a).frame = some s.heap.objs.size := rfl
    have hgL : g.get? s.heap.objs.size = none := by
      induction q : g.get? s.heap.objs.size using Option.casesOn with
      | none => rfl
      | some o => exact absurd (Heap.lt_size (R.keep _ _ q)) (Nat.lt_irrefl _)
    have hsL : s.heap.get? s.heap.objs.size = none := Heap.get?_none_of_le (Nat.le_refl _)
    refine nn fun nG => ?_
    obtain ⟨oL, hoL, hnL⟩ := noRec_ns hns
    refine nG ?_
    have K : (callCx W A envs (callEnv fd s.heap.objs.size a) s.heap.objs.size (ρ.map (·.2)) g s ns O rm).Ok :=
      ⟨F.kind, F.names, rfl, F.glob, F.bui, Around.frames_deeper R.fr, ⟨_, _, rfl, rfl⟩, rfl, R.hand, (by show A.depth + 1 + rm < recursionLimit; exact chk [_,_,_] (.h 1 (.a (.a (.v 0) (.a (.v 1) (.n 1))) (.n 1)) (.v 2) .z) 1 (.a (.a (.a (.v 0) (.n 1)) (.v 1)) (.n 1)) (.v 2) rfl hd), (by show A.units + 3 + 16 * rm + 64 < cLine; exact chk [_,_,_] (.h 1 (.a (.a (.a (.v 0) (.m 16 (.a (.v 1) (.n 1)))) (.n 64)) (.n 1)) (.v 2) .z) 1 (.a (.a (.a (.a (.v 0) (.n 3)) (.m 16 (.v 1))) (.n 64)) (.n 1)) (.v 2) rfl hu), OK⟩
    have T : Stor (callCx W A envs (callEnv fd s.heap.objs.size a) s.heap.objs.size (ρ.map (·.2)) g s ns O rm) := Free.none hsL
    have st : s.heap.StaysIn h₀ := hk
    have I : At (callCx W A envs (callEnv fd s.heap.objs.size a) s.heap.objs.size (ρ.map (·.2)) g s ns O rm) (initL ns (ns.map fun ζ => .none) xs ps) g ρ σ { s with heap := h₀, toks := s.toks + (xs.zip vs).length } := by
      refine ⟨_, ⟨R.kn, StaysIn.trans R.keep st, hns, ⟨by show fd.scope.kind ≠ .module; rw [F.kind]; decide, ⟨_, oL, rfl, hgL, hoL, hnL⟩, ffs_step (Step.of_stays (mu := []) (g := g) st) R.ffs⟩, hgL, Step.of_stays st,
        ⟨hc.len, fun k p c e1 e2 => (hc.at_ k p c e1 e2).keeps (StaysIn.refl g) fun o e => st _ o e⟩, fun p hp => ⟨(hρ p hp).1, fun q => ?_⟩, fun p hp => Free.mem (List.mem_map_of_mem hp), hnd⟩, ?_⟩
      · obtain ⟨o, e⟩ := (hρ p hp).2
        have q : p.2 = s.heap.objs.size := q
        rw [q, hsL] at e; exact nns e
      · have := initL_ok (ns := ns) (done := []) (m := ns.map fun ζ => .none) F.loc ra hl (LocOk.none _)
        exact ⟨by simpa using this, rfl, rfl, Cel.of_no fun x hx => by have := F.cell x (by rw [F.names]; exact hx); exact this⟩
    refine wpAny_mono (run _ _ K T rfl rfl rfl rfl rfl rfl ⟨_, rfl⟩ (fun s' x => ⟨x.1, x.2⟩) I st) (fun f s' h => h) fun e s' h => ?_
    refine nn fun nG => ?_
    obtain ⟨e', rfl, sm, xs, hE⟩ := h
    refine nG ?_
    exact x_leave (C := callCx W A envs (callEnv fd s.heap.objs.size a) s.heap.objs.size (ρ.map (·.2)) g s ns O rm) (Around.frames_deeper R.fr) rfl rfl xs fun g' a0 h' kn st' fl => hE g' a0 _ kn st' fl ⟨sm.1, sm.2⟩

set_option tactic.hygienic true in
theorem frz_ok {C : Cx} {m : Loc} {g : Heap} {ρ : List (Addr × Addr)} {σ : List Cell} {s : Shared} (I : At C m g ρ σ s) {p : PV} {v : Value} {k : KV} {o : Out} (ho : o ≠ .stuck) (h : frz p σ k = o) (r : RepC g ρ p v) {P : Prop}
    (hnew : ∀ j q, p = .cell j → ρ[j]? = some q → Free [] C.H q.2 ∧ q.2 ∉ C.mu)
    (hP : ∀ p' fr g', k p' fr = o → Step C.mu C.G C.H g' s.heap → Kn C.W g' → g'.StaysIn s.heap → g.StaysIn g' → (∀ b, g.get? b = none → (∀ j q, p = .cell j → ρ[j]? = some q → b ≠ q.2) → g'.get? b = none) → ResAt g' s.heap C.H p' v fr → P) : P := by
  have plain : (∀ j, p ≠ .cell j) → k p [] = o → P := fun n h => by
    refine nn fun nG => ?_
    obtain ⟨mv, J, l⟩ := I
    refine nG ?_
    exact hP p [] g h J.st J.kn J.keep (StaysIn.refl g) (fun b e ζ => e) (low r n)
  induction p using PV.casesOn with
  | cell j =>
    unfold frz at h
    dsimp only at h
    split at h
    · rename_i vs e
      refine nn fun nG => ?_
      obtain ⟨q, hq, rfl, hc, ws, hl, hr, hz⟩ := cell_at I r e
      obtain ⟨hf, hm⟩ := hnew j q rfl hq
      have hg := cell_g I (List.mem_of_getElem? hq)
      obtain ⟨mv, J, l⟩ := I
      have sg : g.StaysIn (Mine.ext g s.heap [q.2]) := ext_stays J.keep
      obtain ⟨n, sl, ho'⟩ := hl
      refine nG ?_
      refine hP _ [] (Mine.ext g s.heap [q.2]) h ⟨J.st.up, StaysIn.trans J.st.gg sg, fun b o e n z => ext_none (J.st.gn b o e n z) fun w => ?_⟩ (J.kn.keeps sg) ext_in sg (fun b e hb => ext_none e fun w => hb j q rfl hq (List.mem_singleton.mp w)) ?_
      · rw [List.mem_singleton.mp w] at e; cases hf o e n
      · show Rep _ (.lst vs) _
        simp only [Rep]
        exact ⟨q.1, ws, rfl, ⟨_, (by rw [hc]; exact (ext_new (by simp)).trans ho'), rfl, _, rfl⟩, hr.mono sg, hz⟩
    · rename_i c hne e
      obtain ⟨q, hq, rfl, hca⟩ := cell_at I r e
      obtain ⟨hf, hm⟩ := hnew j q rfl hq
      have hg := cell_g I (List.mem_of_getElem? hq)
      obtain ⟨mv, J, l⟩ := I
      exact hP _ [c] g h J.st J.kn J.keep (StaysIn.refl g) (fun b e ζ => e) ⟨q.1, q.2, rfl, hca, hg, hf⟩
    · exact absurd h.symm ho
  | _ => exact plain (fun j q => by cases q) h

theorem fn_pf (F : FnFacts W a fd body ns xs) (OK : OrcOk W rm O) {n : Nat} {ps : List PV} {k : KV} {o : Out} (hl : ps.length = xs.length) (h : runP O n ns body xs ps k = o) (ho : o ≠ .stuck) {envs : List Env} {A : Around} {g : Heap} {s : Shared} {vs : List Value} {Q E : Value → Shared → Prop}
    (R : Ready W envs A (rm + 1) g s) (ra : Reps g ps vs) (hQ : CallPost W envs g s k o Q) (hE : CallExc W envs [] g s o E) : wpAny W.M A (call (.ref a) vs) Q E s := by
  have ra' : RepsC g [] ps vs := by
    have : ∀ {ps : List PV} {vs : List Value}, Reps g ps vs → RepsC g [] ps vs := by
      intro ps
      induction ps with
      | nil => intro vs h; simp only [Reps] at h; simp only [RepsC]; exact h
      | cons p ps ih => intro vs h; simp only [Reps] at h; obtain ⟨v, r, rfl, h1, h2⟩ := h; simp only [RepsC]; exact ⟨v, r, rfl, up_rep h1, ih h2⟩
    exact this ra
  refine wpAny_call (fn_call F OK R (ρ := []) (σ := []) ra' hl (fun p hp => nim hp) (by simp) ⟨rfl, fun k p c e => by cases e⟩ fun C s₀ K T eW eO en eG eH em ee eS I ζ => ?_)
  subst eW eO en
  unfold runP at h
  refine snd_xs K T n body _ [] _ _ _ o h ho g [] s₀ _ _ I (fun he e s' sm x => ⟨e, rfl, sm, x, fun g' a0 s'' kn st fl z => hE he e g' a0 s'' st kn fl z⟩) ?_ ?_ ?_
  · intro m' σ' s' g' ρ' e' I' sg sp
    have e' : k .none [] = o := e'
    have sm := eS _ I'.sm
    refine nn fun nG => ?_
    obtain ⟨mv, J, l⟩ := I'
    refine nG ?_
    have st := J.st
    rw [em, eG, eH] at st
    exact hQ .none .none [] g' s' e' st J.kn J.keep (show Rep g' .none .none from rfl) sm
  · intro m' σ' s' g' ρ' e' I' sg sp
    exact absurd e'.symm ho
  · intro p v m' σ' s' g' ρ' e' I' r sg sp
    refine frz_ok I' ho e' r (fun j q hp hq => ?_) fun p' fr g₂ hk st kn kp sg' hn rs => ?_
    · refine nn fun nG => ?_
      obtain ⟨mv, J, l⟩ := I'
      refine nG ?_
      have := J.cH q (List.mem_of_getElem? hq)
      rw [em] at this ⊢
      exact ⟨this, by simp⟩
    · rw [em, eG, eH] at st
      rw [eH] at rs
      exact hQ p' v fr g₂ s' hk st kn kp rs (eS _ I'.sm)

theorem fn_mc (F : FnFacts W a fd body ns xs) (OK : OrcOk W rm O) {n : Nat} {c : Cell} {ps : List PV} {k : PV → Cell → List Cell → Out} {o : Out} (hl : ps.length + 1 = xs.length) (h : runM O n ns body xs c ps k = o) (ho : o ≠ .stuck) {envs : List Env} {A : Around} {g : Heap} {s : Shared} {x core : Addr} {vs : List Value} {Q E : Value → Shared → Prop}
    (R : Ready W envs A (rm + 1) g s) (hc : CellAt g s.heap (x, core) c) (hg : g.get? core = none) (hne : c ≠ .exc) (ra : Reps g ps vs) (hQ : MethPost W envs x core g s k o Q) (hE : CallExc W envs [core] g s o E) : codeAny W.M A (.call (.ref a) ⟨.ref x :: vs, []⟩) (fun r s' => match r with | .ok (.ret v) => Q v s' | .ok _ => False | .error e => E e s') s := by
  have ra' : RepsC g [(x, core)] (.cell 0 :: ps) (.ref x :: vs) := by
    have : ∀ {ps : List PV} {vs : List Value}, Reps g ps vs → RepsC g [(x, core)] ps vs := by
      intro ps
      induction ps with
      | nil => intro vs h; simp only [Reps] at h; simp only [RepsC]; exact h
      | cons p ps ih => intro vs h; simp only [Reps] at h; obtain ⟨v, r, rfl, h1, h2⟩ := h; simp only [RepsC]; exact ⟨v, r, rfl, up_rep h1, ih h2⟩
    simp only [RepsC]
    exact ⟨_, _, rfl, ⟨(x, core), rfl, rfl⟩, this ra⟩
  have hcore : ∃ o, s.heap.get? core = some o := by
    refine nn fun nG => ?_
    obtain ⟨o, e, _⟩ := hc.noRec hne
    refine nG ?_
    exact ⟨o, e⟩
  refine fn_call F OK R (ρ := [(x, core)]) (σ := [c]) ra' (by simpa using hl) (fun p hp => by rw [List.mem_singleton.mp hp]; exact ⟨hg, hcore⟩) (by simp) ⟨rfl, fun k p d e1 e2 => ?_⟩ fun C s₀ K T eW eO en eG eH em ee eS I ζ => ?_
  · induction k using Nat.casesOn with
    | zero => cases e1; cases e2; exact hc
    | succ k => exact nns e1
  subst eW eO en
  unfold runM at h
  have self : ∀ {m' σ' s' g' ρ'} {K' : Cell → Out}, selfOf σ' K' = o → At C m' g' ρ' σ' s' → [(x, core)] <+: ρ' → ∃ c', c' ≠ .exc ∧ K' c' = o ∧ CellAt g' s'.heap (x, core) c' ∧ σ'[0]? = some c' ∧ ρ'[0]? = some (x, core) := by
    intro m' σ' s' g' ρ' K' h I' sp
    have h0 : ρ'[0]? = some (x, core) := by obtain ⟨t, rfl⟩ := sp; rfl
    induction σ' using List.casesOn with
    | nil => exact absurd h.symm ho
    | cons c' r =>
      refine nn fun nG => ?_
      obtain ⟨mv, J, l⟩ := I'
      refine nG ?_
      have := J.cells.at_ 0 _ c' h0 rfl
      induction c' using Cell.casesOn with
      | exc => exact absurd h.symm ho
      | list vs => exact ⟨_, (by intro q; cases q), h, this, rfl, h0⟩
      | inst a b d => exact ⟨_, (by intro q; cases q), h, this, rfl, h0⟩
  refine snd_xs K T n body _ [c] _ _ _ o h ho g [(x, core)] s₀ _ _ I (fun he e s' sm y => ⟨e, rfl, sm, y, fun g' a0 s'' kn st fl z => hE he e g' a0 s'' st kn fl z⟩) ?_ ?_ ?_
  · intro m' σ' s' g' ρ' e' I' sg sp
    refine nn fun nG => ?_
    obtain ⟨c', ne, e', hca, _, _⟩ := self e' I' sp
    have sm := eS _ I'.sm
    obtain ⟨mv, J, l⟩ := I'
    refine nG ?_
    have st := J.st
    rw [em, eG, eH] at st
    exact hQ .none .none c' [] g' s' e' st J.kn J.keep hca (show Rep g' .none .none from rfl) ne sm
  · intro m' σ' s' g' ρ' e' I' sg sp
    exact absurd e'.symm ho
  · intro p v m' σ' s' g' ρ' e' I' r sg sp
    refine nn fun nG => ?_
    obtain ⟨c', ne, e', hca, hs0, hr0⟩ := self e' I' sp
    refine nG ?_
    have np : p ≠ .cell 0 := fun q => by subst q; exact absurd e'.symm ho
    have e' : frz p σ' (fun p fr => k p c' fr) = o := by
      unfold frzM at e'
      split at e'
      · exact absurd rfl np
      · exact e'
    refine frz_ok I' ho e' r (fun j q hp hq => ?_) fun p' fr g₂ hk st kn kp sg' hn rs => ?_
    · refine nn fun nG => ?_
      obtain ⟨mv, J, l⟩ := I'
      refine nG ?_
      have hj : j ≠ 0 := fun z => np (by rw [hp, z])
      have hqc : q.2 ≠ core := fun z => hj (nodup_core J.cnd hq hr0 z)
      have := J.cH q (List.mem_of_getElem? hq)
      rw [em] at this ⊢
      refine ⟨fun o' h1 h2 => absurd (List.mem_singleton.mp (this o' h1 h2)) hqc, by simpa using hqc⟩
    · have hcg : g₂.get? core = none := by
        refine hn core (cell_g I' (List.mem_of_getElem? hr0)) fun j q hp hq z => ?_
        have hj : j ≠ 0 := fun w => np (by rw [hp, w])
        obtain ⟨mv, J, l⟩ := I'
        exact hj (nodup_core J.cnd hq hr0 z.symm)
      rw [em, eG, eH] at st
      rw [eH] at rs
      exact hQ p' v c' fr g₂ s' hk st kn kp (hca.keeps sg' fun o e => e) rs ne (eS _ I'.sm)

theorem fn_mf (F : FnFacts W a fd body ns xs) (OK : OrcOk W rm O) {n : Nat} {c : Cell} {ps : List PV} {k : PV → Cell → List Cell → Out} {o : Out} (hl : ps.length + 1 = xs.length) (h : runM O n ns body xs c ps k = o) (ho : o ≠ .stuck) {envs : List Env} {A : Around} {g : Heap} {s : Shared} {x core : Addr} {vs : List Value} {Q E : Value → Shared → Prop}
    (R : Ready W envs A (rm + 1) g s) (hc : CellAt g s.heap (x, core) c) (hg : g.get? core = none) (hne : c ≠ .exc) (ra : Reps g ps vs) (hQ : MethPost W envs x core g s k o Q) (hE : CallExc W envs [core] g s o E) : wpAny W.M A (call (.ref a) (.ref x :: vs)) Q E s :=
  wpAny_call (fn_mc F OK hl h ho R hc hg hne ra hQ hE)

/- a function whose one parameter is read by a comprehension within -/
structure CellFacts (W : Wd) (a : Addr) (fd : FuncData) (body : List Stmt) (ns : Names) (x₀ : Str) : Prop where
  look : ∃ oc od osl, W.K.lookup a = some ⟨oc, od, .func fd, osl⟩
  code : codeIn W.K fd.code fd.qualname = true
  body : fd.body = .stmts body
  names : fd.scope.names = ns
  glob : fd.globals = mainGlobals
  clos : fd.closure = []
  bui : fd.builtins = builtinsNs
  kind : fd.scope.kind = .function
  co : fd.scope.isCoroutine = false
  gen : fd.scope.isGenerator = false
  first : ∃ r, ns = (x₀, .cell) :: r ∧ ∀ x ∈ r, x.2 ≠ .cell
  bind : ∀ v : Value, bindArgs fd ⟨[v], []⟩ = pure [(x₀, v)]
  keep : keepIn W.K (.ref a) = true
theorem cellsFrom_no : ∀ {r : Names} {n : Nat} {acc : List (Str × Addr)}, (∀ x ∈ r, x.2 ≠ .cell) → cellsFrom n r acc = acc
  | [], _, _, _ => rfl
  | (x, k) :: r, n, acc, h => by
    unfold cellsFrom
    have : (k == NameKind.cell) = false := by have := h (x, k) (.head _); simpa using this
    rw [this]
    exact cellsFrom_no fun y hy => h y (.tail _ hy)
theorem At.keepF {C : Cx} {m : Loc} {g : Heap} {ρ : List (Addr × Addr)} {σ : List Cell} {s : Shared} (h : At C m g ρ σ s) {a : Addr} (F : Foreign C g ρ a) :
    At C m (Mine.ext g s.heap [a]) ρ σ s ∧ g.StaysIn (Mine.ext g s.heap [a]) := by
  refine nn fun nG => ?_
  obtain ⟨mv, I, l⟩ := h
  refine nG ?_
  have sg : g.StaysIn (Mine.ext g s.heap [a]) := ext_stays I.keep
  have hn : ∀ b, g.get? b = none → b ≠ a → (Mine.ext g s.heap [a]).get? b = none := fun b e q => ext_none e fun z => q (List.mem_singleton.mp z)
  refine ⟨⟨mv, ⟨I.kn.keeps sg, ext_in, I.ns, frames_base hn F.f I.ffs, hn _ I.gL (Ne.symm F.L), ⟨I.st.up, StaysIn.trans I.st.gg sg, fun b o e n z => hn b (I.st.gn b o e n z) fun q => ?_⟩,
    ⟨I.cells.len, fun k p c e1 e2 => (I.cells.at_ k p c e1 e2).keeps sg fun o e => e⟩, fun p hp => ⟨hn _ (I.cg p hp).1 (F.c p hp), (I.cg p hp).2⟩, I.cH, I.cnd⟩, l.mono sg (List.prefix_refl _)⟩, sg⟩
  rw [q] at e; cases F.H o e n

theorem fn_call_c {x₀ : Str} (F : CellFacts W a fd body ns x₀) (OK : OrcOk W rm O) {envs : List Env} {A : Around} {g : Heap} {s : Shared} (R : Ready W envs A (rm + 1) g s) {x core : Addr} {c : Cell}
    (hg : g.get? core = none) (hcore : ∃ o, s.heap.get? core = some o) (hc : Cells g s.heap [(x, core)] [c]) {Q E : Value → Shared → Prop}
    (run : ∀ (C : Cx) (s₀ : Shared) (g₁ : Heap), C.Ok → Stor C → C.W = W → C.O = O → C.ns = ns → C.G = g → C.H = s.heap → C.mu = [core] → (∃ env, C.envs = env :: envs) → (∀ s', Sm C s' → Same s s') → g.StaysIn g₁ → At C (initL ns (ns.map fun ζ => .none) [x₀] [.cell 0]) g₁ [(x, core)] [c] s₀ →
      wpAny C.W.M C.A (execs body C.env) (fun f s' => Q (match f with | .ret v => v | _ => .none) s') (fun e s' => ∃ e', e = .ref e' ∧ Sm C s' ∧ XSt C e' s'.heap ∧ ∀ g' a0 s'', Kn W g' → Step [core] g s.heap g' s''.heap → Heap.FlyingW g' envs e' (.ref 52) a0 s''.heap → Same s s'' → E (.ref e') s'') s₀) :
    codeAny W.M A (.call (.ref a) ⟨[.ref x], []⟩) (fun r s' => match r with | .ok (.ret v) => Q v s' | .ok _ => False | .error e => E e s') s := by
  refine nn fun nG => ?_
  obtain ⟨oc, od, osl, ho⟩ := F.look
  obtain ⟨r, hns0, hr⟩ := F.first
  refine nG ?_
  have X := R.kn.kin.keeps R.keep
  have hd := R.dep
  have hu := R.un
  have cells : ∀ n, cellsFrom n fd.scope.names [] = [(x₀, n)] := fun n => by
    rw [F.names, hns0]
    unfold cellsFrom
    rw [if_pos (by rfl), cellsFrom_no hr]
  refine codeAny_call_cells (fd := fd) (body := body) (binds := [(x₀, .ref x)]) (by exact chk [_,_,_] (.h 1 (.a (.a (.v 0) (.a (.v 2) (.n 1))) (.n 1)) (.v 1) .z) 1 (.a (.v 0) (.n 1)) (.v 1) rfl hd) (X _ _ ho) rfl (R.kn.top.nolimit.keeps R.keep) (codeRec_of X F.code) F.body (F.bind _) F.clos (fun y hy => ?_) (fun s₁ IC => ?_) F.co F.gen F.kind
  · rw [List.mem_singleton.mp hy]
    refine .inr ⟨?_, ?_⟩
    · rw [F.names, hns0]; simp [List.lookup]
    · rw [cells]; simp [List.lookup]
  · generalize hL : s.heap.objs.size = L at IC ⊢
    have eenv : (callEnvC fd L a).cells = [(x₀, L + 1)] := by show cellsFrom (L + 1) fd.scope.names [] = _; rw [cells]
    have kx : (callEnvC fd L a).kindOf x₀ = some .cell := by show fd.scope.names.lookup x₀ = _; rw [F.names, hns0]; simp [List.lookup]
    have bL : bindL (callEnvC fd L a).kindOf [(x₀, Value.ref x)] (fun ζ => none) = fun ζ => none := by
      unfold bindL
      rw [kx]; rfl
    have bC : bindC (callEnvC fd L a).kindOf [(x₀, Value.ref x)] (fun ζ => none) x₀ = some (.ref x) := by
      unfold bindC
      rw [kx]
      unfold bindC
      simp
    rw [bL] at IC
    have hns : s₁.heap.Ns L (fun ζ => none) := IC.toInCall.ns
    have hcell : s₁.heap.IsCell (L + 1) (some (.ref x)) := by
      have := IC.cell x₀ (L + 1) (by rw [eenv]; simp [List.lookup])
      rw [bC] at this
      exact this
    have hk : s.heap.StaysIn s₁.heap := IC.toInCall.keep
    refine nn fun nG => ?_
    obtain ⟨h₁, tk, rfl⟩ := IC.toInCall.same
    have hgL : g.get? L = none := by
      induction q : g.get? L using Option.casesOn with
      | none => rfl
      | some o => have := Heap.lt_size (R.keep _ _ q); rw [hL] at this; exact absurd this (Nat.lt_irrefl _)
    have hsL : ∀ b, L ≤ b → s.heap.get? b = none := fun b hb => Heap.get?_none_of_le (by exact Nat.le_trans (Nat.le_of_eq hL) hb)
    have hgb : ∀ b, L ≤ b → g.get? b = none := fun b hb => by
      induction q : g.get? b using Option.casesOn with
      | none => rfl
      | some o => have := hsL b hb; rw [R.keep _ _ q] at this; exact nsn this
    obtain ⟨oL, hoL, hnL⟩ := noRec_ns hns
    have K : (callCx W A envs (callEnvC fd L a) L [core] g s ns O rm).Ok :=
      ⟨F.kind, F.names, rfl, F.glob, F.bui, Around.frames_deeper R.fr, ⟨_, _, rfl, rfl⟩, rfl, R.hand, (by show A.depth + 1 + rm < recursionLimit; exact chk [_,_,_] (.h 1 (.a (.a (.v 0) (.a (.v 1) (.n 1))) (.n 1)) (.v 2) .z) 1 (.a (.a (.a (.v 0) (.n 1)) (.v 1)) (.n 1)) (.v 2) rfl hd), (by show A.units + 3 + 16 * rm + 64 < cLine; exact chk [_,_,_] (.h 1 (.a (.a (.a (.v 0) (.m 16 (.a (.v 1) (.n 1)))) (.n 64)) (.n 1)) (.v 2) .z) 1 (.a (.a (.a (.a (.v 0) (.n 3)) (.m 16 (.v 1))) (.n 64)) (.n 1)) (.v 2) rfl hu), OK⟩
    have T : Stor (callCx W A envs (callEnvC fd L a) L [core] g s ns O rm) := Free.none (hsL L (Nat.le_refl _))
    have hcL : core ≠ L := fun q => by obtain ⟨o, e⟩ := hcore; rw [q, hsL L (Nat.le_refl _)] at e; exact nns e
    have hmap : ∀ (j : Nat) (p : PV), ((ns.map fun ζ => (none : Option PV)) : Loc)[j]? = some (some p) → False := fun j p e => by
      rw [List.getElem?_map] at e
      induction h : ns[j]? using Option.casesOn with
      | none => rw [h] at e; exact nns e
      | some z => rw [h] at e; cases e
    have I : At (callCx W A envs (callEnvC fd L a) L [core] g s ns O rm) (ns.map fun ζ => none) g [(x, core)] [c] { s with heap := h₁, toks := tk } := by
      refine ⟨_, ⟨R.kn, StaysIn.trans R.keep hk, hns, ⟨by show fd.scope.kind ≠ .module; rw [F.kind]; decide, ⟨_, oL, rfl, hgL, hoL, hnL⟩, ffs_step (Step.of_stays (mu := []) (g := g) hk) R.ffs⟩, hgL, Step.of_stays hk,
        ⟨hc.len, fun k p c e1 e2 => (hc.at_ k p c e1 e2).keeps (StaysIn.refl g) fun o e => hk _ o e⟩, fun p hp => ?_, fun p hp => ?_, by simp⟩, LocOk.none _, rfl, rfl, fun y j p e1 e2 => (hmap j p e2).elim⟩
      · rw [List.mem_singleton.mp hp]; exact ⟨hg, hcL⟩
      · rw [List.mem_singleton.mp hp]; exact Free.mem (by simp)
    have FC : Foreign (callCx W A envs (callEnvC fd L a) L [core] g s ns O rm) g [(x, core)] (L + 1) := by
      refine ⟨hgb _ (by exact Nat.le_succ _), (by show L + 1 ≠ L; omega), fun p hp q => ?_, fun e he q => ?_, fun o e ζ => ?_⟩
      · rw [List.mem_singleton.mp hp] at q
        have q : core = L + 1 := q
        obtain ⟨o, e⟩ := hcore
        rw [q, hsL _ (by exact Nat.le_succ _)] at e; exact nns e
      · rcases List.mem_cons.mp he with rfl | he
        · have q : some L = some (L + 1) := q
          have := Option.some.inj q
          exact Nat.not_succ_le_zero 0 (chk [_] (.h 1 (.a (.v 0) (.n 1)) (.v 0) .z) 1 (.n 1) (.n 0) rfl (Nat.le_of_eq (Eq.symm this)))
        · have : ∀ {l : List Env}, s.heap.FunFrames g l → ∀ e ∈ l, e.frame ≠ some (L + 1) := by
            intro l
            induction l with
            | nil => intro _ e he; exact nim he
            | cons x r ih =>
              rintro ⟨hk, ⟨L', o, hf, hn, ho, hd⟩, hr⟩ e he q
              rcases List.mem_cons.mp he with rfl | he
              · rw [hf] at q; cases q; rw [hsL _ (by exact Nat.le_succ _)] at ho; exact nns ho
              · exact ih hr e he q
          exact this R.ffs e he q
      · have e : s.heap.get? (L + 1) = some o := e
        rw [hsL _ (by exact Nat.le_succ _)] at e; exact nns e
    obtain ⟨I₁, sg⟩ := I.keepF FC
    refine nG ?_
    have hi : slot x₀ ns 0 = some (0, .cell) := by
      rw [hns0]
      unfold slot
      rw [seq_iff.mpr rfl]
    have hinit : initL ns (ns.map fun ζ => .none) [x₀] [.cell 0] = (ns.map fun ζ => (none : Option PV)).set 0 (some (.cell 0)) := by
      show (match slot x₀ ns 0 with
        | some (i, .local) => initL ns ((ns.map fun ζ => none).set i (some (.cell 0))) [] []
        | some (i, .cell) => initL ns ((ns.map fun ζ => none).set i (some (.cell 0))) [] []
        | _ => _) = _
      rw [hi]; rfl
    have getset : ∀ (j : Nat) (p : PV), ((ns.map fun ζ => (none : Option PV)).set 0 (some (.cell 0)))[j]? = some (some p) → j = 0 ∧ p = .cell 0 := fun j p e => by
      by_cases hj : j = 0
      · subst hj
        rw [hns0] at e
        simp at e
        exact ⟨rfl, e.symm⟩
      · rw [List.getElem?_set_ne (Ne.symm hj)] at e
        exact (hmap j p e).elim
    have I₂ : At (callCx W A envs (callEnvC fd L a) L [core] g s ns O rm) (initL ns (ns.map fun ζ => .none) [x₀] [.cell 0]) (Mine.ext g h₁ [L + 1]) [(x, core)] [c] { s with heap := h₁, toks := tk } := by
      rw [hinit]
      obtain ⟨mv, J, l⟩ := I₁
      refine ⟨mv, J, fun y j p e1 e2 => ?_, l.os_, l.gens_, fun y j p e1 e2 => ?_⟩
      · refine nn fun nG => ?_
        obtain ⟨rfl, _⟩ := getset j p e2
        refine nG ?_
        have h1 := slot_get e1
        rw [Nat.sub_zero, hns0] at h1
        simp at h1
      · obtain ⟨rfl, rfl⟩ := getset j p e2
        have h1 := slot_get e1
        rw [Nat.sub_zero, hns0] at h1
        have hy : x₀ = y := by simpa using h1
        subst hy
        obtain ⟨oc', hoc, hdc⟩ := hcell
        refine ⟨L + 1, .ref x, ?_, ⟨oc', (ext_new (by simp)).trans hoc, hdc⟩, ⟨(x, core), rfl, rfl⟩⟩
        show (callEnvC fd L a).cells.lookup x₀ = some (L + 1)
        rw [eenv]; simp [List.lookup]
    refine wpAny_mono (run _ _ _ K T rfl rfl rfl rfl rfl rfl ⟨_, rfl⟩ (fun s' x => ⟨x.1, x.2⟩) sg I₂) (fun f s' h => h) fun e s' h => ?_
    refine nn fun nG => ?_
    obtain ⟨e', rfl, sm, xs, hE⟩ := h
    refine nG ?_
    exact x_leave (C := callCx W A envs (callEnvC fd L a) L [core] g s ns O rm) (Around.frames_deeper R.fr) rfl rfl xs fun g' a0 h' kn st' fl => hE g' a0 _ kn st' fl ⟨sm.1, sm.2⟩

theorem fn_mc_c {x₀ : Str} (F : CellFacts W a fd body ns x₀) (OK : OrcOk W rm O) {n : Nat} {c : Cell} {k : PV → Cell → List Cell → Out} {o : Out} (h : runM O n ns body [x₀] c [] k = o) (ho : o ≠ .stuck) {envs : List Env} {A : Around} {g : Heap} {s : Shared} {x core : Addr} {Q E : Value → Shared → Prop}
    (R : Ready W envs A (rm + 1) g s) (hc : CellAt g s.heap (x, core) c) (hg : g.get? core = none) (hne : c ≠ .exc) (hQ : MethPost W envs x core g s k o Q) (hE : CallExc W envs [core] g s o E) : codeAny W.M A (.call (.ref a) ⟨[.ref x], []⟩) (fun r s' => match r with | .ok (.ret v) => Q v s' | .ok _ => False | .error e => E e s') s := by
  have hcore : ∃ o, s.heap.get? core = some o := by
    refine nn fun nG => ?_
    obtain ⟨o, e, _⟩ := hc.noRec hne
    refine nG ?_
    exact ⟨o, e⟩
  refine fn_call_c (c := c) F OK R hg hcore ⟨rfl, fun k p d e1 e2 => ?_⟩ fun C s₀ g₁ K T eW eO en eG eH em ee eS sg₁ I => ?_
  · induction k using Nat.casesOn with
    | zero => cases e1; cases e2; exact hc
    | succ k => exact nns e1
  subst eW eO en
  unfold runM at h
  have self : ∀ {m' σ' s' g' ρ'} {K' : Cell → Out}, selfOf σ' K' = o → At C m' g' ρ' σ' s' → [(x, core)] <+: ρ' → ∃ c', c' ≠ .exc ∧ K' c' = o ∧ CellAt g' s'.heap (x, core) c' ∧ σ'[0]? = some c' ∧ ρ'[0]? = some (x, core) := by
    intro m' σ' s' g' ρ' K' h I' sp
    have h0 : ρ'[0]? = some (x, core) := by obtain ⟨t, rfl⟩ := sp; rfl
    induction σ' using List.casesOn with
    | nil => exact absurd h.symm ho
    | cons c' r =>
      refine nn fun nG => ?_
      obtain ⟨mv, J, l⟩ := I'
      refine nG ?_
      have := J.cells.at_ 0 _ c' h0 rfl
      induction c' using Cell.casesOn with
      | exc => exact absurd h.symm ho
      | list vs => exact ⟨_, (by intro q; cases q), h, this, rfl, h0⟩
      | inst a b d => exact ⟨_, (by intro q; cases q), h, this, rfl, h0⟩
  refine snd_xs K T n body _ [c] _ _ _ o h ho g₁ [(x, core)] s₀ _ _ I (fun he e s' sm y => ⟨e, rfl, sm, y, fun g' a0 s'' kn st fl z => hE he e g' a0 s'' st kn fl z⟩) ?_ ?_ ?_
  · intro m' σ' s' g' ρ' e' I' sg sp
    refine nn fun nG => ?_
    obtain ⟨c', ne, e', hca, _, _⟩ := self e' I' sp
    have sm := eS _ I'.sm
    obtain ⟨mv, J, l⟩ := I'
    refine nG ?_
    have st := J.st
    rw [em, eG, eH] at st
    exact hQ .none .none c' [] g' s' e' st J.kn J.keep hca (show Rep g' .none .none from rfl) ne sm
  · intro m' σ' s' g' ρ' e' I' sg sp
    exact absurd e'.symm ho
  · intro p v m' σ' s' g' ρ' e' I' r sg sp
    refine nn fun nG => ?_
    obtain ⟨c', ne, e', hca, hs0, hr0⟩ := self e' I' sp
    refine nG ?_
    have np : p ≠ .cell 0 := fun q => by subst q; exact absurd e'.symm ho
    have e' : frz p σ' (fun p fr => k p c' fr) = o := by
      unfold frzM at e'
      split at e'
      · exact absurd rfl np
      · exact e'
    refine frz_ok I' ho e' r (fun j q hp hq => ?_) fun p' fr g₂ hk st kn kp sg' hn rs => ?_
    · refine nn fun nG => ?_
      obtain ⟨mv, J, l⟩ := I'
      refine nG ?_
      have hj : j ≠ 0 := fun z => np (by rw [hp, z])
      have hqc : q.2 ≠ core := fun z => hj (nodup_core J.cnd hq hr0 z)
      have := J.cH q (List.mem_of_getElem? hq)
      rw [em] at this ⊢
      refine ⟨fun o' h1 h2 => absurd (List.mem_singleton.mp (this o' h1 h2)) hqc, by simpa using hqc⟩
    · rw [em, eG, eH] at st
      rw [eH] at rs
      exact hQ p' v c' fr g₂ s' hk st kn kp (hca.keeps sg' fun o e => e) rs ne (eS _ I'.sm)
theorem fn_mf_c {x₀ : Str} (F : CellFacts W a fd body ns x₀) (OK : OrcOk W rm O) {n : Nat} {c : Cell} {k : PV → Cell → List Cell → Out} {o : Out} (h : runM O n ns body [x₀] c [] k = o) (ho : o ≠ .stuck) {envs : List Env} {A : Around} {g : Heap} {s : Shared} {x core : Addr} {Q E : Value → Shared → Prop}
    (R : Ready W envs A (rm + 1) g s) (hc : CellAt g s.heap (x, core) c) (hg : g.get? core = none) (hne : c ≠ .exc) (hQ : MethPost W envs x core g s k o Q) (hE : CallExc W envs [core] g s o E) : wpAny W.M A (call (.ref a) [.ref x]) Q E s :=
  wpAny_call (fn_mc_c F OK h ho R hc hg hne hQ hE)

set_option tactic.hygienic true in
theorem frzT_ok {C : Cx} {m : Loc} {g : Heap} {ρ : List (Addr × Addr)} {σ : List Cell} {s : Shared} (I : At C m g ρ σ s) {p : PV} {v : Value} {k : KV} {o : Out} (ho : o ≠ .stuck) (h : frzT p σ k = o) (r : RepC g ρ p v) {P : Prop}
    (hnew : ∀ j q, p = .cell j → ρ[j]? = some q → Free [] C.H q.2 ∧ q.2 ∉ C.mu)
    (hP : ∀ p' fr, k p' fr = o → ResAt g s.heap C.H p' v fr → P) : P := by
  have plain : (∀ j, p ≠ .cell j) → k p [] = o → P := fun n h => hP p [] h (low r n)
  induction p using PV.casesOn with
  | cell j =>
    unfold frzT at h
    dsimp only at h
    split at h
    · rename_i c e
      refine nn fun nG => ?_
      obtain ⟨q, hq, rfl, hca⟩ := cell_at I r e
      obtain ⟨hf, hm⟩ := hnew j q rfl hq
      refine nG ?_
      have hg := cell_g I (List.mem_of_getElem? hq)
      exact hP _ [c] h ⟨q.1, q.2, rfl, hca, hg, hf⟩
    · exact absurd h.symm ho
  | _ => exact plain (fun j q => by cases q) h
theorem fn_pt (F : FnFacts W a fd body ns xs) (OK : OrcOk W rm O) {n : Nat} {ps : List PV} {k : KV} {o : Out} (hl : ps.length = xs.length) (h : runT O n ns body xs ps k = o) (ho : o ≠ .stuck) {envs : List Env} {A : Around} {g : Heap} {s : Shared} {vs : List Value} {Q E : Value → Shared → Prop}
    (R : Ready W envs A (rm + 1) g s) (ra : Reps g ps vs) (hQ : CallPost W envs g s k o Q) (hE : CallExc W envs [] g s o E) : wpAny W.M A (call (.ref a) vs) Q E s := by
  have ra' : RepsC g [] ps vs := by
    have : ∀ {ps : List PV} {vs : List Value}, Reps g ps vs → RepsC g [] ps vs := by
      intro ps
      induction ps with
      | nil => intro vs h; simp only [Reps] at h; simp only [RepsC]; exact h
      | cons p ps ih => intro vs h; simp only [Reps] at h; obtain ⟨v, r, rfl, h1, h2⟩ := h; simp only [RepsC]; exact ⟨v, r, rfl, up_rep h1, ih h2⟩
    exact this ra
  refine wpAny_call (fn_call F OK R (ρ := []) (σ := []) ra' hl (fun p hp => nim hp) (by simp) ⟨rfl, fun k p c e => by cases e⟩ fun C s₀ K T eW eO en eG eH em ee eS I ζ => ?_)
  subst eW eO en
  unfold runT at h
  refine snd_xs K T n body _ [] _ _ _ o h ho g [] s₀ _ _ I (fun he e s' sm x => ⟨e, rfl, sm, x, fun g' a0 s'' kn st fl z => hE he e g' a0 s'' st kn fl z⟩) ?_ ?_ ?_
  · intro m' σ' s' g' ρ' e' I' sg sp
    have e' : k .none [] = o := e'
    have sm := eS _ I'.sm
    refine nn fun nG => ?_
    obtain ⟨mv, J, l⟩ := I'
    refine nG ?_
    have st := J.st
    rw [em, eG, eH] at st
    exact hQ .none .none [] g' s' e' st J.kn J.keep (show Rep g' .none .none from rfl) sm
  · intro m' σ' s' g' ρ' e' I' sg sp
    exact absurd e'.symm ho
  · intro p v m' σ' s' g' ρ' e' I' r sg sp
    have I'' := I'
    refine frzT_ok I' ho e' r (fun j q hp hq => ?_) fun p' fr hk rs => ?_
    · refine nn fun nG => ?_
      obtain ⟨mv, J, l⟩ := I'
      refine nG ?_
      have := J.cH q (List.mem_of_getElem? hq)
      rw [em] at this ⊢
      exact ⟨this, by simp⟩
    · obtain ⟨mv, J, l⟩ := I'
      have st := J.st
      rw [em, eG, eH] at st
      rw [eH] at rs
      exact hQ p' v fr g' s' hk st J.kn J.keep rs (eS _ I''.sm)
end
end Mine
end
section
namespace Mine
open PySem
noncomputable abbrev pw : Program := PySem.Challenge.pw_pq0946_01
noncomputable def stAt (i : Nat) : Stmt := match pw.main.body[i]? with
  | some s => s
  | none => .Pass ⟨0, 0, 0, 0⟩
noncomputable def inCls (i j : Nat) : Stmt := match stAt i with
  | .ClassDef _ _ _ b .. => (match b[j]? with
    | some s => s
    | none => .Pass ⟨0, 0, 0, 0⟩)
  | _ => .Pass ⟨0, 0, 0, 0⟩
noncomputable def fBody : Stmt → List Stmt
  | .FunctionDef _ _ b _ _ _ _ _ _ _ => b
  | _ => []
noncomputable def fScope : Stmt → Scope
  | .FunctionDef _ _ _ _ _ _ s _ _ _ => s
  | _ => ⟨.module, [], false, false, []⟩
noncomputable def fNames (st : Stmt) : Names := (fScope st).names
noncomputable def fArgs : Stmt → List Str
  | .FunctionDef _ a _ _ _ _ _ _ _ _ => a.args.map (·.arg)
  | _ => []

noncomputable def lookT (a : Nat) : List (Nat × Stmt) → Option Stmt
  | [] => none
  | (b, s) :: r => match Nat.beq b a with
    | true => some s
    | false => lookT a r
/- the functions of plain values -/
noncomputable def pfL : List (Nat × Stmt) := [(62, stAt 8), (69, stAt 9), (76, stAt 10), (83, stAt 11), (90, stAt 12), (97, stAt 13), (104, stAt 14), (111, stAt 15), (118, stAt 16), (123, stAt 17), (130, stAt 18), (137, stAt 19), (144, stAt 20), (151, stAt 21), (210, stAt 25), (215, stAt 26), (341, stAt 34), (346, stAt 35), (351, stAt 36), (358, stAt 37), (365, stAt 38), (439, stAt 52), (372, stAt 39), (377, stAt 40), (408, stAt 47), (415, stAt 48), (432, stAt 51), (172, inCls 23 1), (198, inCls 24 1)]
noncomputable def pfT (a : Nat) : Option Stmt := lookT a pfL
/- the functions whose first argument changes -/
noncomputable def mfL : List (Nat × Stmt) := [(391, stAt 44), (398, stAt 45), (236, inCls 27 1), (243, inCls 27 2), (250, inCls 27 3), (257, inCls 27 4), (264, inCls 27 5), (271, inCls 27 6), (278, inCls 27 7), (285, inCls 27 8), (299, stAt 28), (306, stAt 29), (313, stAt 30), (320, stAt 31), (327, stAt 32), (334, stAt 33)]
noncomputable def mfT (a : Nat) : Option Stmt := lookT a mfL

noncomputable def sOf (s : String) : Str := PySem.Str.ofString s
noncomputable def byt (l : List Nat) : PV := .bytes (l.map fun n => UInt8.ofNat n).toArray
noncomputable def fnT : List (String × Nat) := [("is_atom_code", 62), ("line_end", 69), ("inside_at", 76), ("closed_at", 83), ("comment_at", 90), ("atom_at", 97), ("token_at", 104), ("past_white", 111),
  ("tokens_of", 118), ("without_comments", 123), ("phrase_of", 130), ("escaped_octets", 137), ("quoted_string", 144), ("is_atom", 151), ("Mailbox", 175), ("Group", 201), ("sign_text", 210),
  ("sign_octets", 215), ("PlaceReader", 288), ("local_of", 299), ("domain_of", 306), ("pass_route", 313), ("read_mailbox", 320), ("read_place", 327), ("read_list", 334), ("read_addresses", 341),
  ("is_dotted", 346), ("phrase_octets", 351), ("local_octets", 358), ("domain_octets", 365), ("mailbox_octets", 372), ("write_addresses", 377), ("_law_is_bare", 408), ("_law_octets", 415),
  ("_law_heard", 420), ("_law_is_refused", 427), ("WordFault", 52), ("_law_tape", 384), ("_law_draw", 391), ("_law_sign", 398), ("_law_texts", 403), ("_law_right", 432)]
noncomputable def globT : List (Str × PV) :=
  [(sOf "MOST_DEPTH", .int 20), (sOf "SIGNS", byt [60, 62, 64, 44, 59, 58, 46, 92]), (sOf "ATOM_SIGNS", byt [33, 35, 36, 37, 38, 39, 42, 43, 45, 47, 61, 63, 94, 95, 96, 123, 124, 125, 126]),
   (sOf "NEVER_ESCAPED", .tup [.int 0, .int 10, .int 13]), (sOf "_law_barred", .str ⟨#[40, 41, 60, 62, 91, 93, 58, 59, 64, 92, 44, 46, 34]⟩)]
noncomputable def bltT : List String := ["len", "chr", "ord", "isinstance", "abs"]
noncomputable def typT : List String := ["range", "bytes", "tuple", "int"]
noncomputable def lookG (x : Str) : List (Str × PV) → Option PV
  | [] => none
  | (y, p) :: r => match seq y x with
    | true => some p
    | false => lookG x r
noncomputable def lookF (x : Str) : List (String × Nat) → Option PV
  | [] => none
  | (y, a) :: r => match seq (sOf y) x with
    | true => some (.raw (.ref a))
    | false => lookF x r
noncomputable def lookS (x : Str) (f : String → Value) : List String → Option PV
  | [] => none
  | y :: r => match seq (sOf y) x with
    | true => some (.raw (f y))
    | false => lookS x f r
noncomputable def orO {α : Type} : Option α → Option α → Option α
  | some a, _ => some a
  | none, b => b
noncomputable def globO (x : Str) : Option PV := orO (lookG x globT) (orO (lookF x fnT) (orO (lookS x .builtin bltT) (lookS x .type typT)))

noncomputable def methT : List (Nat × String × Nat) := [(175, "told", 172), (201, "told", 198), (288, "is_done", 236), (288, "kind", 243), (288, "stands", 250), (288, "take", 257), (288, "skip", 264),
  (288, "fault", 271), (288, "need", 278), (288, "words", 285)]
noncomputable def lookM (c : Nat) (x : Str) : List (Nat × String × Nat) → Option Nat
  | [] => none
  | (d, y, a) :: r => match Nat.beq d c && seq (sOf y) x with
    | true => some a
    | false => lookM c x r
noncomputable def fldT : List (Nat × String) := [(175, "name"), (175, "local"), (175, "domain"), (201, "name"), (201, "members"), (288, "tokens"), (288, "at"), (288, "length")]
noncomputable def hasF (c : Nat) (x : Str) : List (Nat × String) → Bool
  | [] => false
  | (d, y) :: r => match Nat.beq d c && seq (sOf y) x with
    | true => true
    | false => hasF c x r
noncomputable def isiO (c d : Nat) : Option Bool := match Nat.beq d 201 with
  | true => (match Nat.beq c 201, Nat.beq c 175 with
    | true, _ => some true
    | _, true => some false
    | _, _ => none)
  | false => none

noncomputable def clsO (a : Nat) (ps : List PV) (k : KV) : Out := match Nat.beq a 52 with
  | true => (match ps with
    | [_, q] => (match q with
      | .int _ => k (.cell 0) [.exc]
      | _ => .stuck)
    | _ => .stuck)
  | false => match Nat.beq a 175 with
    | true => (match ps with
      | [x, y, z] => k (.obj 175 [sOf "name", sOf "local", sOf "domain"] [x, y, z]) []
      | _ => .stuck)
    | false => match Nat.beq a 201 with
      | true => (match ps with
        | [x, y] => k (.obj 201 [sOf "name", sOf "members"] [x, y]) []
        | _ => .stuck)
      | false => match Nat.beq a 288 with
        | true => (match ps with
          | [x, y] => k (.cell 0) [.inst 288 [sOf "tokens", sOf "at", sOf "length"] [x, .int 0, y]]
          | _ => .stuck)
        | false => .stuck

noncomputable def FU : Nat := 60
/- the two functions with a try -/
noncomputable def tBody : Stmt → List Stmt
  | .FunctionDef _ _ (.Try b _ _ _ _ :: _) _ _ _ _ _ _ _ => b
  | _ => []
noncomputable def tryO (r : Out) (k : PV → Out) (x : Out) : Out := match r with
  | .ok v [] => k v
  | .exc => x
  | _ => .stuck
noncomputable def heardO (P : Orc) (ps : List PV) (k : KV) : Out := br (Nat.beq ps.length (fArgs (stAt 49)).length) (tryO (execS P (fNames (stAt 49)) FU (tBody (stAt 49)) (initL (fNames (stAt 49)) ((fNames (stAt 49)).map fun ζ => .none) (fArgs (stAt 49)) ps) [] (fun ζ ζ => .stuck) (fun ζ ζ => .stuck) (fun v σ => frz v σ .ok))
  (fun v => k v []) (k .none [])) .stuck
noncomputable def refusedO (P : Orc) (ps : List PV) (k : KV) : Out := br (Nat.beq ps.length (fArgs (stAt 50)).length) (tryO (execS P (fNames (stAt 50)) FU (tBody (stAt 50)) (initL (fNames (stAt 50)) ((fNames (stAt 50)).map fun ζ => .none) (fArgs (stAt 50)) ps) [] (fun ζ ζ => .ok .none []) (fun ζ ζ => .stuck) (fun ζ ζ => .stuck))
  (fun ζ => k (.bool false) []) (k (.bool true) [])) .stuck

noncomputable def pfO (P : Orc) (a : Nat) (ps : List PV) (k : KV) : Out := match pfT a with
  | some st => br (Nat.beq ps.length (fArgs st).length) (runP P FU (fNames st) (fBody st) (fArgs st) ps k) .stuck
  | none => match a with
    | 420 => heardO P ps k
    | 427 => refusedO P ps k
    | 384 => br (Nat.beq ps.length (fArgs (stAt 43)).length) (runT P FU (fNames (stAt 43)) (fBody (stAt 43)) (fArgs (stAt 43)) ps k) .stuck
    | a => clsO a ps k
noncomputable def mfO (P : Orc) (a : Nat) (c : Cell) (ps : List PV) (k : PV → Cell → List Cell → Out) : Out := match mfT a with
  | some st => br (Nat.beq (ps.length + 1) (fArgs st).length) (runM P FU (fNames st) (fBody st) (fArgs st) c ps k) .stuck
  | none => match a, ps with
    | 403, [] => runM P FU (fNames (stAt 46)) (fBody (stAt 46)) [sOf "tape"] c [] k
    | _, _ => .stuck
noncomputable def O : Nat → Orc
  | 0 => ⟨fun ζ ζ ζ => .stuck, fun ζ ζ ζ ζ => .stuck, globO, fun c x => lookM c x methT, fun c x => hasF c x fldT, isiO, LF⟩
  | n + 1 => ⟨pfO (O n), mfO (O n), globO, fun c x => lookM c x methT, fun c x => hasF c x fldT, isiO, LF⟩
end Mine
end
section
set_option maxRecDepth 100000
namespace Mine
open PySem PySem.W PyProof.Rows PySem.Spec PySem.Calls PySem.SeqAt

noncomputable def fdOf (W : Wd) (a : Addr) : Option FuncData := match W.K.lookup a with
  | some ⟨_, _, .func fd, _⟩ => some fd
  | _ => none
noncomputable def okFn (W : Wd) (a : Addr) : Bool := match fdOf W a with
  | some fd => codeIn W.K fd.code fd.qualname && keepIn W.K (.ref a)
  | none => false
noncomputable def plainNames (ns : Names) : Bool := ns.all fun x => match x.2 with
  | .cell => false
  | _ => true
noncomputable def locArgs (ns : Names) (xs : List Str) : Bool := xs.all fun x => match slot x ns 0 with
  | some (_, .local) => true
  | _ => false
noncomputable def flags (s : Scope) : Bool := (match s.kind with | .function => true | _ => false) && !s.isCoroutine && !s.isGenerator

set_option tactic.hygienic true in
theorem fnFacts_of {W : Wd} {a : Addr} {st : Stmt} (h1 : okFn W a = true) (h2 : (fdOf W a).map (fun fd => (fd.body, fd.scope, fd.globals, fd.closure, fd.builtins)) = some (.stmts (fBody st), fScope st, mainGlobals, [], builtinsNs))
    (h3 : flags (fScope st) = true) (h4 : plainNames (fNames st) = true) (h5 : ∀ vs : List Value, vs.length = (fArgs st).length → (fdOf W a).map (fun fd => bindArgs fd ⟨vs, []⟩) = some (pure ((fArgs st).zip vs))) (h6 : locArgs (fNames st) (fArgs st) = true) :
    ∃ fd, FnFacts W a fd (fBody st) (fNames st) (fArgs st) := by
  unfold okFn at h1
  induction hf : fdOf W a using Option.casesOn with
  | none => rw [hf] at h1; exact nft h1
  | some fd =>
    rw [hf] at h1 h2
    have h1 : (codeIn W.K fd.code fd.qualname && keepIn W.K (.ref a)) = true := h1
    rw [Bool.and_eq_true] at h1
    have h2 := Option.some.inj h2
    simp only [Prod.mk.injEq] at h2
    refine nn fun nG => ?_
    obtain ⟨b1, b2, b3, b4, b5⟩ := h2
    refine nG ?_
    unfold flags at h3
    rw [Bool.and_eq_true, Bool.and_eq_true, Bool.not_eq_true', Bool.not_eq_true'] at h3
    have hk : (fScope st).kind = .function := by
      have := h3.1.1
      split at this
      · assumption
      · exact nft this
    refine ⟨fd, ?_, h1.1, b1, by rw [b2]; rfl, b3, b4, b5, by rw [b2]; exact hk, by rw [b2]; exact h3.1.2, by rw [b2]; exact h3.2, fun x hx => ?_, fun vs hl s ζ => ?_, fun x hx => ?_, h1.2⟩
    · unfold fdOf at hf
      split at hf
      · rename_i oc od fd' osl e
        cases hf
        exact ⟨_, _, _, e⟩
      · exact nns hf
    · rw [b2] at hx
      have := List.all_eq_true.mp h4 x hx
      intro q
      rw [q] at this; exact nft this
    · have := h5 vs hl
      rw [hf] at this
      exact BindsTo.of_eq (Option.some.inj this)
    · have := List.all_eq_true.mp h6 x hx
      split at this
      · rename_i i e
        exact (slot_lookup e).1
      · exact nft this

theorem len0 {vs : List Value} (h : vs.length = 0) : vs = [] := List.length_eq_zero_iff.mp h
theorem len1 {vs : List Value} (h : vs.length = 1) : ∃ a, vs = [a] := List.length_eq_one_iff.mp h
theorem len2 {vs : List Value} (h : vs.length = 2) : ∃ a b, vs = [a, b] := by
  match vs, h with
  | [a, b], _ => exact ⟨a, b, rfl⟩
theorem len3 {vs : List Value} (h : vs.length = 3) : ∃ a b c, vs = [a, b, c] := by
  match vs, h with
  | [a, b, c], _ => exact ⟨a, b, c, rfl⟩
theorem len4 {vs : List Value} (h : vs.length = 4) : ∃ a b c d, vs = [a, b, c, d] := by
  match vs, h with
  | [a, b, c, d], _ => exact ⟨a, b, c, d, rfl⟩

theorem ff62 (W : Wd) : ∃ fd, FnFacts W 62 fd (fBody (stAt 8)) (fNames (stAt 8)) (fArgs (stAt 8)) :=
  fnFacts_of (by kernel_rfl) (by kernel_rfl) (by kernel_rfl) (by kernel_rfl) (fun vs h => by obtain ⟨a, rfl⟩ := len1 (h.trans (by kernel_rfl : _ = 1)); kernel_rfl) (by kernel_rfl)
theorem ff69 (W : Wd) : ∃ fd, FnFacts W 69 fd (fBody (stAt 9)) (fNames (stAt 9)) (fArgs (stAt 9)) :=
  fnFacts_of (by kernel_rfl) (by kernel_rfl) (by kernel_rfl) (by kernel_rfl) (fun vs h => by obtain ⟨a, b, rfl⟩ := len2 (h.trans (by kernel_rfl : _ = 2)); kernel_rfl) (by kernel_rfl)
theorem ff76 (W : Wd) : ∃ fd, FnFacts W 76 fd (fBody (stAt 10)) (fNames (stAt 10)) (fArgs (stAt 10)) :=
  fnFacts_of (by kernel_rfl) (by kernel_rfl) (by kernel_rfl) (by kernel_rfl) (fun vs h => by obtain ⟨a, b, c, rfl⟩ := len3 (h.trans (by kernel_rfl : _ = 3)); kernel_rfl) (by kernel_rfl)
theorem ff83 (W : Wd) : ∃ fd, FnFacts W 83 fd (fBody (stAt 11)) (fNames (stAt 11)) (fArgs (stAt 11)) :=
  fnFacts_of (by kernel_rfl) (by kernel_rfl) (by kernel_rfl) (by kernel_rfl) (fun vs h => by obtain ⟨a, b, c, d, rfl⟩ := len4 (h.trans (by kernel_rfl : _ = 4)); kernel_rfl) (by kernel_rfl)
theorem ff90 (W : Wd) : ∃ fd, FnFacts W 90 fd (fBody (stAt 12)) (fNames (stAt 12)) (fArgs (stAt 12)) :=
  fnFacts_of (by kernel_rfl) (by kernel_rfl) (by kernel_rfl) (by kernel_rfl) (fun vs h => by obtain ⟨a, b, rfl⟩ := len2 (h.trans (by kernel_rfl : _ = 2)); kernel_rfl) (by kernel_rfl)
theorem ff97 (W : Wd) : ∃ fd, FnFacts W 97 fd (fBody (stAt 13)) (fNames (stAt 13)) (fArgs (stAt 13)) :=
  fnFacts_of (by kernel_rfl) (by kernel_rfl) (by kernel_rfl) (by kernel_rfl) (fun vs h => by obtain ⟨a, b, rfl⟩ := len2 (h.trans (by kernel_rfl : _ = 2)); kernel_rfl) (by kernel_rfl)
theorem ff104 (W : Wd) : ∃ fd, FnFacts W 104 fd (fBody (stAt 14)) (fNames (stAt 14)) (fArgs (stAt 14)) :=
  fnFacts_of (by kernel_rfl) (by kernel_rfl) (by kernel_rfl) (by kernel_rfl) (fun vs h => by obtain ⟨a, b, rfl⟩ := len2 (h.trans (by kernel_rfl : _ = 2)); kernel_rfl) (by kernel_rfl)
theorem ff111 (W : Wd) : ∃ fd, FnFacts W 111 fd (fBody (stAt 15)) (fNames (stAt 15)) (fArgs (stAt 15)) :=
  fnFacts_of (by kernel_rfl) (by kernel_rfl) (by kernel_rfl) (by kernel_rfl) (fun vs h => by obtain ⟨a, b, rfl⟩ := len2 (h.trans (by kernel_rfl : _ = 2)); kernel_rfl) (by kernel_rfl)
theorem ff118 (W : Wd) : ∃ fd, FnFacts W 118 fd (fBody (stAt 16)) (fNames (stAt 16)) (fArgs (stAt 16)) :=
  fnFacts_of (by kernel_rfl) (by kernel_rfl) (by kernel_rfl) (by kernel_rfl) (fun vs h => by obtain ⟨a, rfl⟩ := len1 (h.trans (by kernel_rfl : _ = 1)); kernel_rfl) (by kernel_rfl)
theorem ff123 (W : Wd) : ∃ fd, FnFacts W 123 fd (fBody (stAt 17)) (fNames (stAt 17)) (fArgs (stAt 17)) :=
  fnFacts_of (by kernel_rfl) (by kernel_rfl) (by kernel_rfl) (by kernel_rfl) (fun vs h => by obtain ⟨a, rfl⟩ := len1 (h.trans (by kernel_rfl : _ = 1)); kernel_rfl) (by kernel_rfl)
theorem ff130 (W : Wd) : ∃ fd, FnFacts W 130 fd (fBody (stAt 18)) (fNames (stAt 18)) (fArgs (stAt 18)) :=
  fnFacts_of (by kernel_rfl) (by kernel_rfl) (by kernel_rfl) (by kernel_rfl) (fun vs h => by obtain ⟨a, rfl⟩ := len1 (h.trans (by kernel_rfl : _ = 1)); kernel_rfl) (by kernel_rfl)
theorem ff137 (W : Wd) : ∃ fd, FnFacts W 137 fd (fBody (stAt 19)) (fNames (stAt 19)) (fArgs (stAt 19)) :=
  fnFacts_of (by kernel_rfl) (by kernel_rfl) (by kernel_rfl) (by kernel_rfl) (fun vs h => by obtain ⟨a, b, rfl⟩ := len2 (h.trans (by kernel_rfl : _ = 2)); kernel_rfl) (by kernel_rfl)
theorem ff144 (W : Wd) : ∃ fd, FnFacts W 144 fd (fBody (stAt 20)) (fNames (stAt 20)) (fArgs (stAt 20)) :=
  fnFacts_of (by kernel_rfl) (by kernel_rfl) (by kernel_rfl) (by kernel_rfl) (fun vs h => by obtain ⟨a, rfl⟩ := len1 (h.trans (by kernel_rfl : _ = 1)); kernel_rfl) (by kernel_rfl)
theorem ff151 (W : Wd) : ∃ fd, FnFacts W 151 fd (fBody (stAt 21)) (fNames (stAt 21)) (fArgs (stAt 21)) :=
  fnFacts_of (by kernel_rfl) (by kernel_rfl) (by kernel_rfl) (by kernel_rfl) (fun vs h => by obtain ⟨a, rfl⟩ := len1 (h.trans (by kernel_rfl : _ = 1)); kernel_rfl) (by kernel_rfl)
theorem ff210 (W : Wd) : ∃ fd, FnFacts W 210 fd (fBody (stAt 25)) (fNames (stAt 25)) (fArgs (stAt 25)) :=
  fnFacts_of (by kernel_rfl) (by kernel_rfl) (by kernel_rfl) (by kernel_rfl) (fun vs h => by obtain ⟨a, rfl⟩ := len1 (h.trans (by kernel_rfl : _ = 1)); kernel_rfl) (by kernel_rfl)
theorem ff215 (W : Wd) : ∃ fd, FnFacts W 215 fd (fBody (stAt 26)) (fNames (stAt 26)) (fArgs (stAt 26)) :=
  fnFacts_of (by kernel_rfl) (by kernel_rfl) (by kernel_rfl) (by kernel_rfl) (fun vs h => by obtain ⟨a, rfl⟩ := len1 (h.trans (by kernel_rfl : _ = 1)); kernel_rfl) (by kernel_rfl)
theorem ff341 (W : Wd) : ∃ fd, FnFacts W 341 fd (fBody (stAt 34)) (fNames (stAt 34)) (fArgs (stAt 34)) :=
  fnFacts_of (by kernel_rfl) (by kernel_rfl) (by kernel_rfl) (by kernel_rfl) (fun vs h => by obtain ⟨a, rfl⟩ := len1 (h.trans (by kernel_rfl : _ = 1)); kernel_rfl) (by kernel_rfl)
theorem ff346 (W : Wd) : ∃ fd, FnFacts W 346 fd (fBody (stAt 35)) (fNames (stAt 35)) (fArgs (stAt 35)) :=
  fnFacts_of (by kernel_rfl) (by kernel_rfl) (by kernel_rfl) (by kernel_rfl) (fun vs h => by obtain ⟨a, rfl⟩ := len1 (h.trans (by kernel_rfl : _ = 1)); kernel_rfl) (by kernel_rfl)
theorem ff351 (W : Wd) : ∃ fd, FnFacts W 351 fd (fBody (stAt 36)) (fNames (stAt 36)) (fArgs (stAt 36)) :=
  fnFacts_of (by kernel_rfl) (by kernel_rfl) (by kernel_rfl) (by kernel_rfl) (fun vs h => by obtain ⟨a, rfl⟩ := len1 (h.trans (by kernel_rfl : _ = 1)); kernel_rfl) (by kernel_rfl)
theorem ff358 (W : Wd) : ∃ fd, FnFacts W 358 fd (fBody (stAt 37)) (fNames (stAt 37)) (fArgs (stAt 37)) :=
  fnFacts_of (by kernel_rfl) (by kernel_rfl) (by kernel_rfl) (by kernel_rfl) (fun vs h => by obtain ⟨a, rfl⟩ := len1 (h.trans (by kernel_rfl : _ = 1)); kernel_rfl) (by kernel_rfl)
theorem ff365 (W : Wd) : ∃ fd, FnFacts W 365 fd (fBody (stAt 38)) (fNames (stAt 38)) (fArgs (stAt 38)) :=
  fnFacts_of (by kernel_rfl) (by kernel_rfl) (by kernel_rfl) (by kernel_rfl) (fun vs h => by obtain ⟨a, rfl⟩ := len1 (h.trans (by kernel_rfl : _ = 1)); kernel_rfl) (by kernel_rfl)
theorem ff372 (W : Wd) : ∃ fd, FnFacts W 372 fd (fBody (stAt 39)) (fNames (stAt 39)) (fArgs (stAt 39)) :=
  fnFacts_of (by kernel_rfl) (by kernel_rfl) (by kernel_rfl) (by kernel_rfl) (fun vs h => by obtain ⟨a, rfl⟩ := len1 (h.trans (by kernel_rfl : _ = 1)); kernel_rfl) (by kernel_rfl)
theorem ff377 (W : Wd) : ∃ fd, FnFacts W 377 fd (fBody (stAt 40)) (fNames (stAt 40)) (fArgs (stAt 40)) :=
  fnFacts_of (by kernel_rfl) (by kernel_rfl) (by kernel_rfl) (by kernel_rfl) (fun vs h => by obtain ⟨a, rfl⟩ := len1 (h.trans (by kernel_rfl : _ = 1)); kernel_rfl) (by kernel_rfl)
theorem ff408 (W : Wd) : ∃ fd, FnFacts W 408 fd (fBody (stAt 47)) (fNames (stAt 47)) (fArgs (stAt 47)) :=
  fnFacts_of (by kernel_rfl) (by kernel_rfl) (by kernel_rfl) (by kernel_rfl) (fun vs h => by obtain ⟨a, b, rfl⟩ := len2 (h.trans (by kernel_rfl : _ = 2)); kernel_rfl) (by kernel_rfl)
theorem ff415 (W : Wd) : ∃ fd, FnFacts W 415 fd (fBody (stAt 48)) (fNames (stAt 48)) (fArgs (stAt 48)) :=
  fnFacts_of (by kernel_rfl) (by kernel_rfl) (by kernel_rfl) (by kernel_rfl) (fun vs h => by obtain ⟨a, b, rfl⟩ := len2 (h.trans (by kernel_rfl : _ = 2)); kernel_rfl) (by kernel_rfl)
theorem ff432 (W : Wd) : ∃ fd, FnFacts W 432 fd (fBody (stAt 51)) (fNames (stAt 51)) (fArgs (stAt 51)) :=
  fnFacts_of (by kernel_rfl) (by kernel_rfl) (by kernel_rfl) (by kernel_rfl) (fun vs h => by obtain ⟨a, b, rfl⟩ := len2 (h.trans (by kernel_rfl : _ = 2)); kernel_rfl) (by kernel_rfl)
theorem ff172 (W : Wd) : ∃ fd, FnFacts W 172 fd (fBody (inCls 23 1)) (fNames (inCls 23 1)) (fArgs (inCls 23 1)) :=
  fnFacts_of (by kernel_rfl) (by kernel_rfl) (by kernel_rfl) (by kernel_rfl) (fun vs h => by obtain ⟨a, rfl⟩ := len1 (h.trans (by kernel_rfl : _ = 1)); kernel_rfl) (by kernel_rfl)
theorem ff198 (W : Wd) : ∃ fd, FnFacts W 198 fd (fBody (inCls 24 1)) (fNames (inCls 24 1)) (fArgs (inCls 24 1)) :=
  fnFacts_of (by kernel_rfl) (by kernel_rfl) (by kernel_rfl) (by kernel_rfl) (fun vs h => by obtain ⟨a, rfl⟩ := len1 (h.trans (by kernel_rfl : _ = 1)); kernel_rfl) (by kernel_rfl)
theorem ff236 (W : Wd) : ∃ fd, FnFacts W 236 fd (fBody (inCls 27 1)) (fNames (inCls 27 1)) (fArgs (inCls 27 1)) :=
  fnFacts_of (by kernel_rfl) (by kernel_rfl) (by kernel_rfl) (by kernel_rfl) (fun vs h => by obtain ⟨a, rfl⟩ := len1 (h.trans (by kernel_rfl : _ = 1)); kernel_rfl) (by kernel_rfl)
theorem ff243 (W : Wd) : ∃ fd, FnFacts W 243 fd (fBody (inCls 27 2)) (fNames (inCls 27 2)) (fArgs (inCls 27 2)) :=
  fnFacts_of (by kernel_rfl) (by kernel_rfl) (by kernel_rfl) (by kernel_rfl) (fun vs h => by obtain ⟨a, rfl⟩ := len1 (h.trans (by kernel_rfl : _ = 1)); kernel_rfl) (by kernel_rfl)
theorem ff250 (W : Wd) : ∃ fd, FnFacts W 250 fd (fBody (inCls 27 3)) (fNames (inCls 27 3)) (fArgs (inCls 27 3)) :=
  fnFacts_of (by kernel_rfl) (by kernel_rfl) (by kernel_rfl) (by kernel_rfl) (fun vs h => by obtain ⟨a, b, rfl⟩ := len2 (h.trans (by kernel_rfl : _ = 2)); kernel_rfl) (by kernel_rfl)
theorem ff257 (W : Wd) : ∃ fd, FnFacts W 257 fd (fBody (inCls 27 4)) (fNames (inCls 27 4)) (fArgs (inCls 27 4)) :=
  fnFacts_of (by kernel_rfl) (by kernel_rfl) (by kernel_rfl) (by kernel_rfl) (fun vs h => by obtain ⟨a, rfl⟩ := len1 (h.trans (by kernel_rfl : _ = 1)); kernel_rfl) (by kernel_rfl)
theorem ff264 (W : Wd) : ∃ fd, FnFacts W 264 fd (fBody (inCls 27 5)) (fNames (inCls 27 5)) (fArgs (inCls 27 5)) :=
  fnFacts_of (by kernel_rfl) (by kernel_rfl) (by kernel_rfl) (by kernel_rfl) (fun vs h => by obtain ⟨a, b, rfl⟩ := len2 (h.trans (by kernel_rfl : _ = 2)); kernel_rfl) (by kernel_rfl)
theorem ff271 (W : Wd) : ∃ fd, FnFacts W 271 fd (fBody (inCls 27 6)) (fNames (inCls 27 6)) (fArgs (inCls 27 6)) :=
  fnFacts_of (by kernel_rfl) (by kernel_rfl) (by kernel_rfl) (by kernel_rfl) (fun vs h => by obtain ⟨a, b, rfl⟩ := len2 (h.trans (by kernel_rfl : _ = 2)); kernel_rfl) (by kernel_rfl)
theorem ff278 (W : Wd) : ∃ fd, FnFacts W 278 fd (fBody (inCls 27 7)) (fNames (inCls 27 7)) (fArgs (inCls 27 7)) :=
  fnFacts_of (by kernel_rfl) (by kernel_rfl) (by kernel_rfl) (by kernel_rfl) (fun vs h => by obtain ⟨a, b, rfl⟩ := len2 (h.trans (by kernel_rfl : _ = 2)); kernel_rfl) (by kernel_rfl)
theorem ff285 (W : Wd) : ∃ fd, FnFacts W 285 fd (fBody (inCls 27 8)) (fNames (inCls 27 8)) (fArgs (inCls 27 8)) :=
  fnFacts_of (by kernel_rfl) (by kernel_rfl) (by kernel_rfl) (by kernel_rfl) (fun vs h => by obtain ⟨a, rfl⟩ := len1 (h.trans (by kernel_rfl : _ = 1)); kernel_rfl) (by kernel_rfl)
theorem ff299 (W : Wd) : ∃ fd, FnFacts W 299 fd (fBody (stAt 28)) (fNames (stAt 28)) (fArgs (stAt 28)) :=
  fnFacts_of (by kernel_rfl) (by kernel_rfl) (by kernel_rfl) (by kernel_rfl) (fun vs h => by obtain ⟨a, b, rfl⟩ := len2 (h.trans (by kernel_rfl : _ = 2)); kernel_rfl) (by kernel_rfl)
theorem ff306 (W : Wd) : ∃ fd, FnFacts W 306 fd (fBody (stAt 29)) (fNames (stAt 29)) (fArgs (stAt 29)) :=
  fnFacts_of (by kernel_rfl) (by kernel_rfl) (by kernel_rfl) (by kernel_rfl) (fun vs h => by obtain ⟨a, rfl⟩ := len1 (h.trans (by kernel_rfl : _ = 1)); kernel_rfl) (by kernel_rfl)
theorem ff313 (W : Wd) : ∃ fd, FnFacts W 313 fd (fBody (stAt 30)) (fNames (stAt 30)) (fArgs (stAt 30)) :=
  fnFacts_of (by kernel_rfl) (by kernel_rfl) (by kernel_rfl) (by kernel_rfl) (fun vs h => by obtain ⟨a, rfl⟩ := len1 (h.trans (by kernel_rfl : _ = 1)); kernel_rfl) (by kernel_rfl)
theorem ff320 (W : Wd) : ∃ fd, FnFacts W 320 fd (fBody (stAt 31)) (fNames (stAt 31)) (fArgs (stAt 31)) :=
  fnFacts_of (by kernel_rfl) (by kernel_rfl) (by kernel_rfl) (by kernel_rfl) (fun vs h => by obtain ⟨a, b, rfl⟩ := len2 (h.trans (by kernel_rfl : _ = 2)); kernel_rfl) (by kernel_rfl)
theorem ff327 (W : Wd) : ∃ fd, FnFacts W 327 fd (fBody (stAt 32)) (fNames (stAt 32)) (fArgs (stAt 32)) :=
  fnFacts_of (by kernel_rfl) (by kernel_rfl) (by kernel_rfl) (by kernel_rfl) (fun vs h => by obtain ⟨a, b, rfl⟩ := len2 (h.trans (by kernel_rfl : _ = 2)); kernel_rfl) (by kernel_rfl)
theorem ff334 (W : Wd) : ∃ fd, FnFacts W 334 fd (fBody (stAt 33)) (fNames (stAt 33)) (fArgs (stAt 33)) :=
  fnFacts_of (by kernel_rfl) (by kernel_rfl) (by kernel_rfl) (by kernel_rfl) (fun vs h => by obtain ⟨a, b, rfl⟩ := len2 (h.trans (by kernel_rfl : _ = 2)); kernel_rfl) (by kernel_rfl)
theorem ff165 (W : Wd) : ∃ fd, FnFacts W 165 fd (fBody (inCls 23 0)) (fNames (inCls 23 0)) (fArgs (inCls 23 0)) :=
  fnFacts_of (by kernel_rfl) (by kernel_rfl) (by kernel_rfl) (by kernel_rfl) (fun vs h => by obtain ⟨a, b, c, d, rfl⟩ := len4 (h.trans (by kernel_rfl : _ = 4)); kernel_rfl) (by kernel_rfl)
theorem ff193 (W : Wd) : ∃ fd, FnFacts W 193 fd (fBody (inCls 24 0)) (fNames (inCls 24 0)) (fArgs (inCls 24 0)) :=
  fnFacts_of (by kernel_rfl) (by kernel_rfl) (by kernel_rfl) (by kernel_rfl) (fun vs h => by obtain ⟨a, b, c, rfl⟩ := len3 (h.trans (by kernel_rfl : _ = 3)); kernel_rfl) (by kernel_rfl)
theorem ff229 (W : Wd) : ∃ fd, FnFacts W 229 fd (fBody (inCls 27 0)) (fNames (inCls 27 0)) (fArgs (inCls 27 0)) :=
  fnFacts_of (by kernel_rfl) (by kernel_rfl) (by kernel_rfl) (by kernel_rfl) (fun vs h => by obtain ⟨a, b, c, rfl⟩ := len3 (h.trans (by kernel_rfl : _ = 3)); kernel_rfl) (by kernel_rfl)
theorem ff420 (W : Wd) : ∃ fd, FnFacts W 420 fd (fBody (stAt 49)) (fNames (stAt 49)) (fArgs (stAt 49)) :=
  fnFacts_of (by kernel_rfl) (by kernel_rfl) (by kernel_rfl) (by kernel_rfl) (fun vs h => by obtain ⟨a, rfl⟩ := len1 (h.trans (by kernel_rfl : _ = 1)); kernel_rfl) (by kernel_rfl)
theorem ff427 (W : Wd) : ∃ fd, FnFacts W 427 fd (fBody (stAt 50)) (fNames (stAt 50)) (fArgs (stAt 50)) :=
  fnFacts_of (by kernel_rfl) (by kernel_rfl) (by kernel_rfl) (by kernel_rfl) (fun vs h => by obtain ⟨a, rfl⟩ := len1 (h.trans (by kernel_rfl : _ = 1)); kernel_rfl) (by kernel_rfl)

theorem ff384 (W : Wd) : ∃ fd, FnFacts W 384 fd (fBody (stAt 43)) (fNames (stAt 43)) (fArgs (stAt 43)) :=
  fnFacts_of (by kernel_rfl) (by kernel_rfl) (by kernel_rfl) (by kernel_rfl) (fun vs h => by obtain ⟨a, rfl⟩ := len1 (h.trans (by kernel_rfl : _ = 1)); kernel_rfl) (by kernel_rfl)
theorem ff391 (W : Wd) : ∃ fd, FnFacts W 391 fd (fBody (stAt 44)) (fNames (stAt 44)) (fArgs (stAt 44)) :=
  fnFacts_of (by kernel_rfl) (by kernel_rfl) (by kernel_rfl) (by kernel_rfl) (fun vs h => by obtain ⟨a, b, rfl⟩ := len2 (h.trans (by kernel_rfl : _ = 2)); kernel_rfl) (by kernel_rfl)
theorem ff398 (W : Wd) : ∃ fd, FnFacts W 398 fd (fBody (stAt 45)) (fNames (stAt 45)) (fArgs (stAt 45)) :=
  fnFacts_of (by kernel_rfl) (by kernel_rfl) (by kernel_rfl) (by kernel_rfl) (fun vs h => by obtain ⟨a, rfl⟩ := len1 (h.trans (by kernel_rfl : _ = 1)); kernel_rfl) (by kernel_rfl)
theorem ff439 (W : Wd) : ∃ fd, FnFacts W 439 fd (fBody (stAt 52)) (fNames (stAt 52)) (fArgs (stAt 52)) :=
  fnFacts_of (by kernel_rfl) (by kernel_rfl) (by kernel_rfl) (by kernel_rfl) (fun vs h => by obtain ⟨a, rfl⟩ := len1 (h.trans (by kernel_rfl : _ = 1)); kernel_rfl) (by kernel_rfl)
set_option tactic.hygienic true in
theorem cellFacts_of {W : Wd} {a : Addr} {st : Stmt} {x₀ : Str} (h1 : okFn W a = true) (h2 : (fdOf W a).map (fun fd => (fd.body, fd.scope, fd.globals, fd.closure, fd.builtins)) = some (.stmts (fBody st), fScope st, mainGlobals, [], builtinsNs))
    (h3 : flags (fScope st) = true) (h4 : ∃ r, fNames st = (x₀, .cell) :: r ∧ plainNames r = true) (h5 : ∀ v : Value, (fdOf W a).map (fun fd => bindArgs fd ⟨[v], []⟩) = some (pure [(x₀, v)])) :
    ∃ fd, CellFacts W a fd (fBody st) (fNames st) x₀ := by
  unfold okFn at h1
  induction hf : fdOf W a using Option.casesOn with
  | none => rw [hf] at h1; exact nft h1
  | some fd =>
    rw [hf] at h1 h2
    have h1 : (codeIn W.K fd.code fd.qualname && keepIn W.K (.ref a)) = true := h1
    rw [Bool.and_eq_true] at h1
    have h2 := Option.some.inj h2
    simp only [Prod.mk.injEq] at h2
    refine nn fun nG => ?_
    obtain ⟨b1, b2, b3, b4, b5⟩ := h2
    refine nG ?_
    unfold flags at h3
    rw [Bool.and_eq_true, Bool.and_eq_true, Bool.not_eq_true', Bool.not_eq_true'] at h3
    have hk : (fScope st).kind = .function := by
      have := h3.1.1
      split at this
      · assumption
      · exact nft this
    obtain ⟨r, hr, hp⟩ := h4
    refine ⟨fd, ?_, h1.1, b1, by rw [b2]; rfl, b3, b4, b5, by rw [b2]; exact hk, by rw [b2]; exact h3.1.2, by rw [b2]; exact h3.2, ⟨r, hr, fun x hx q => ?_⟩, fun v => ?_, h1.2⟩
    · unfold fdOf at hf
      split at hf
      · rename_i oc od fd' osl e
        cases hf
        exact ⟨_, _, _, e⟩
      · exact nns hf
    · have := List.all_eq_true.mp hp x hx
      rw [q] at this; exact nft this
    · have := h5 v
      rw [hf] at this
      exact Option.some.inj this
theorem cf403 (W : Wd) : ∃ fd, CellFacts W 403 fd (fBody (stAt 46)) (fNames (stAt 46)) (sOf "tape") :=
  cellFacts_of (by kernel_rfl) (by kernel_rfl) (by kernel_rfl) ⟨(fNames (stAt 46)).tail, by kernel_rfl, by kernel_rfl⟩ (fun v => by kernel_rfl)

noncomputable def AllT (P : Nat → Stmt → Prop) : List (Nat × Stmt) → Prop
  | [] => True
  | x :: r => P x.1 x.2 ∧ AllT P r
theorem lookT_all {P : Nat → Stmt → Prop} {a : Nat} {st : Stmt} : ∀ {l : List (Nat × Stmt)}, lookT a l = some st → AllT P l → P a st
  | [], h, _ => nns h
  | (b, t) :: r, h, ⟨h1, h2⟩ => by
    have h : (match Nat.beq b a with
      | true => some t
      | false => lookT a r) = some st := h
    generalize e : Nat.beq b a = c at h
    induction c using Bool.casesOn with
    | true =>
      obtain rfl := Option.some.inj h
      obtain rfl := Nat.eq_of_beq_eq_true e
      exact h1
    | false => exact lookT_all h h2
theorem pf_facts {W : Wd} {a : Addr} {st : Stmt} (h : pfT a = some st) : ∃ fd, FnFacts W a fd (fBody st) (fNames st) (fArgs st) :=
  lookT_all (P := fun a st => ∃ fd, FnFacts W a fd (fBody st) (fNames st) (fArgs st)) (l := pfL) h ⟨ff62 W, ff69 W, ff76 W, ff83 W, ff90 W, ff97 W, ff104 W, ff111 W, ff118 W, ff123 W, ff130 W, ff137 W, ff144 W, ff151 W, ff210 W, ff215 W, ff341 W, ff346 W, ff351 W, ff358 W, ff365 W, ff439 W, ff372 W, ff377 W, ff408 W, ff415 W, ff432 W, ff172 W, ff198 W, trivial⟩
theorem mf_facts {W : Wd} {a : Addr} {st : Stmt} (h : mfT a = some st) : ∃ fd, FnFacts W a fd (fBody st) (fNames st) (fArgs st) :=
  lookT_all (P := fun a st => ∃ fd, FnFacts W a fd (fBody st) (fNames st) (fArgs st)) (l := mfL) h ⟨ff391 W, ff398 W, ff236 W, ff243 W, ff250 W, ff257 W, ff264 W, ff271 W, ff278 W, ff285 W, ff299 W, ff306 W, ff313 W, ff320 W, ff327 W, ff334 W, trivial⟩
end Mine
end
section
set_option maxRecDepth 100000
namespace Mine
open PySem PySem.W PyProof.Rows PySem.Spec PySem.Calls PySem.SeqAt

noncomputable def ctorK (K : Addr → List Str → List PV → Out) : PV → Cell → List Cell → Out := fun p c fr => match p, c, fr with
  | .none, .inst c ns vs, [] => K c ns vs
  | _, _, _ => .stuck

section
variable {W : Wd} {rm : Nat} {O : Orc}

theorem Ready.mono {envs : List Env} {A : Around} {g : Heap} {s : Shared} {r r' : Nat} (R : Ready W envs A r g s) (h : r' ≤ r) : Ready W envs A r' g s :=
  ⟨R.kn, R.keep, R.fr, R.hand, R.ffs, (by have := R.dep; exact chk [_,_,_,_] (.h 1 (.v 1) (.v 3) (.h 1 (.a (.a (.v 0) (.v 3)) (.n 1)) (.v 2) .z)) 1 (.a (.a (.v 0) (.v 1)) (.n 1)) (.v 2) rfl h this), (by have := R.un; omega)⟩

set_option tactic.hygienic true in
theorem cls_call {c fI : Addr} {fd : FuncData} {body : List Stmt} {ns : Names} {xs : List Str} (hm : makesIn W.K c = true) (hi : findIn W.K (.ref c) (PySem.Str.ofString "__init__") = some (some (.ref fI))) (hf : typeIn W.K (.ref fI) = some (.type "function"))
    (F : FnFacts W fI fd body ns xs) (OK : OrcOk W rm O) {n : Nat} {ps : List PV} {K : Addr → List Str → List PV → Out} {o : Out} (hl : ps.length + 1 = xs.length) (h : runM O n ns body xs (.inst c [] []) ps (ctorK K) = o) (ho : o ≠ .stuck)
    {envs : List Env} {A : Around} {g : Heap} {s : Shared} {vs : List Value} {Q E : Value → Shared → Prop} (R : Ready W envs A (rm + 2) g s) (ra : Reps g ps vs)
    (hQ : ∀ c' cns cvs x d g' s', K c' cns cvs = o → Step [] g s.heap g' s'.heap → Kn W g' → g'.StaysIn s'.heap → CellAt g' s'.heap (x, d) (.inst c' cns cvs) → g'.get? d = none → s.heap.get? d = none → Same s s' → Q (.ref x) s')
    (hE : CallExc W envs [] g s o E) : wpAny W.M A (call (.ref c) vs) Q E s := by
  have X := R.kn.kin.keeps R.keep
  obtain ⟨hh, ge, dr, t, os⟩ := s
  have X : W.K.In hh := X
  refine wpAny_call (make_core (makes_of X hm) (looks_findIn X hi) (fun self => bind_fn X self hf) (.inl rfl) ?_)
  have k2 : hh.StaysIn ((hh.push emptyDict).push (instObj c hh.objs.size)) := fun b o e => Heap.get?_push_of_some _ (Heap.get?_push_of_some _ e)
  have hx : ((hh.push emptyDict).push (instObj c hh.objs.size)).get? (hh.objs.size + 1) = some (instObj c hh.objs.size) := by heap_get
  have hd : ((hh.push emptyDict).push (instObj c hh.objs.size)).get? hh.objs.size = some emptyDict := by heap_get
  have hdn : hh.get? hh.objs.size = none := Heap.get?_none_of_le (Nat.le_refl _)
  have hxn : hh.get? (hh.objs.size + 1) = none := Heap.get?_none_of_le (Nat.le_succ _)
  have kp : g.StaysIn ((hh.push emptyDict).push (instObj c hh.objs.size)) := StaysIn.trans R.keep k2
  have sg : g.StaysIn (Mine.ext g ((hh.push emptyDict).push (instObj c hh.objs.size)) [hh.objs.size + 1]) := ext_stays kp
  have gd : g.get? hh.objs.size = none := by
    induction q : g.get? hh.objs.size using Option.casesOn with
    | none => rfl
    | some o => have := R.keep _ _ q; rw [hdn] at this; exact nns this
  have st : Step [] g hh (Mine.ext g ((hh.push emptyDict).push (instObj c hh.objs.size)) [hh.objs.size + 1]) ((hh.push emptyDict).push (instObj c hh.objs.size)) :=
    ⟨.of_stays k2, sg, fun b o e n z => ext_none z fun q => by rw [List.mem_singleton.mp q, hxn] at e; cases e⟩
  have R2 : Ready W envs (A.under (.builtin "type.__call__" ⟨.ref c :: vs, []⟩)) (rm + 1) (Mine.ext g ((hh.push emptyDict).push (instObj c hh.objs.size)) [hh.objs.size + 1]) ⟨(hh.push emptyDict).push (instObj c hh.objs.size), ge, dr, t, os⟩ := by
    have hd := R.dep
    have hu := R.un
    refine ⟨R.kn.keeps sg, ext_in, ?_, R.hand, ffs_step st R.ffs, ?_, ?_⟩
    · show pushEnvs [] A.frames = some envs
      exact R.fr
    · show A.depth + 1 + (rm + 1) < recursionLimit
      exact chk [_,_,_] (.h 1 (.a (.a (.v 0) (.a (.v 1) (.n 2))) (.n 1)) (.v 2) .z) 1 (.a (.a (.a (.v 0) (.n 1)) (.a (.v 1) (.n 1))) (.n 1)) (.v 2) rfl hd
    · show A.units + _ + 16 * (rm + 1) + 64 < cLine
      have : (Code.builtin "type.__call__" ⟨.ref c :: vs, []⟩).cUnits ≤ 4 := by
        unfold Code.cUnits; simp [Code.frames, Code.isFrame]
      exact chk [_,_,_,_] (.h 1 (.a (.a (.a (.v 0) (.m 16 (.a (.v 2) (.n 2)))) (.n 64)) (.n 1)) (.v 3) (.h 1 (.v 1) (.n 4) .z)) 1 (.a (.a (.a (.a (.v 0) (.v 1)) (.m 16 (.a (.v 2) (.n 1)))) (.n 64)) (.n 1)) (.v 3) rfl hu this
  have cat : CellAt (Mine.ext g ((hh.push emptyDict).push (instObj c hh.objs.size)) [hh.objs.size + 1]) ((hh.push emptyDict).push (instObj c hh.objs.size)) (hh.objs.size + 1, hh.objs.size) (.inst c [] []) := by
    refine ⟨(ext_new (by simp)).trans hx, [], Heap.Ns1.of_empty ⟨_, #[], _, hd, rfl, fun e he => absurd he (by simp), fun ζ => rfl⟩, (by simp [Reps]), rfl⟩
  refine codeAny_mono (fn_mc F OK hl h ho (Q := fun v s' => v = .none ∧ Q (.ref (hh.objs.size + 1)) s') (E := E) R2 cat (ext_none gd fun q => by simp at q) (by intro q; cases q) (ra.mono sg)
    (fun p v c' fr g' s' hk st' kn' kp' ca rs ne sm => ?_) (fun he e g' a0 s' st' kn' fl sm => hE he e g' a0 s' (st.trans st' fun b hb => by rw [List.mem_singleton.mp hb]; exact Free.none hdn) kn' fl ⟨sm.1, sm.2⟩)) fun r s' z => ?_
  · unfold ctorK at hk
    split at hk
    · rename_i c2 cns cvs
      cases (show v = .none from rs)
      refine ⟨rfl, ?_⟩
      exact hQ c2 cns cvs _ _ g' s' hk (st.trans st' fun b hb => by rw [List.mem_singleton.mp hb]; exact Free.none hdn) kn' kp' ca (st'.gn _ _ hd (fun vs q => by cases q) (ext_none gd fun q => by simp at q)) hdn ⟨sm.1, sm.2⟩
    · exact absurd hk.symm ho
  · rcases r with e | (v | _ | _ | _) <;> exact z
end
end Mine
end
section
set_option maxRecDepth 100000
namespace Mine
open PySem PySem.W PyProof.Rows PySem.Spec PySem.Calls PySem.SeqAt

theorem noCell_eq {p : PV} (h : ∀ k, p ≠ .cell k) (o : Out) : noCell p o = o := by
  induction p using PV.casesOn with
  | cell k => exact absurd rfl (h k)
  | _ => rfl
theorem rep_nocell {g : Heap} {p : PV} {v : Value} (r : Rep g p v) : ∀ k, p ≠ .cell k := fun k q => by subst q; exact r

theorem init175 (n : Nat) (x y z : PV) (K : Addr → List Str → List PV → Out) : runM (O n) FU (fNames (inCls 23 0)) (fBody (inCls 23 0)) (fArgs (inCls 23 0)) (.inst 175 [] []) [x, y, z] (ctorK K) =
    noCell x (noCell y (noCell z (K 175 [sOf "name", sOf "local", sOf "domain"] [x, y, z]))) := by
  cases n <;> kernel_rfl
theorem init201 (n : Nat) (x y : PV) (K : Addr → List Str → List PV → Out) : runM (O n) FU (fNames (inCls 24 0)) (fBody (inCls 24 0)) (fArgs (inCls 24 0)) (.inst 201 [] []) [x, y] (ctorK K) =
    noCell x (noCell y (K 201 [sOf "name", sOf "members"] [x, y])) := by
  cases n <;> kernel_rfl
theorem init288 (n : Nat) (x y : PV) (K : Addr → List Str → List PV → Out) : runM (O n) FU (fNames (inCls 27 0)) (fBody (inCls 27 0)) (fArgs (inCls 27 0)) (.inst 288 [] []) [x, y] (ctorK K) =
    noCell x (noCell y (K 288 [sOf "tokens", sOf "at", sOf "length"] [x, .int 0, y])) := by
  cases n <;> kernel_rfl

/- class facts -/
noncomputable def clsOk (W : Wd) (c fI : Addr) : Bool := makesIn W.K c && (findIn W.K (.ref c) (PySem.Str.ofString "__init__") == some (some (.ref fI))) && (typeIn W.K (.ref fI) == some (.type "function")) && keepIn W.K (.ref c)
theorem clsOk_of {W : Wd} {c fI : Addr} (h : clsOk W c fI = true) : makesIn W.K c = true ∧ findIn W.K (.ref c) (PySem.Str.ofString "__init__") = some (some (.ref fI)) ∧ typeIn W.K (.ref fI) = some (.type "function") ∧ keepIn W.K (.ref c) = true := by
  unfold clsOk at h
  simp only [Bool.and_eq_true, beq_iff_eq] at h
  exact ⟨h.1.1.1, h.1.1.2, h.1.2, h.2⟩
theorem cls175 (W : Wd) : clsOk W 175 165 = true := by kernel_rfl
theorem cls201 (W : Wd) : clsOk W 201 193 = true := by kernel_rfl
theorem cls288 (W : Wd) : clsOk W 288 229 = true := by kernel_rfl

section
variable {W : Wd} {rm : Nat} {n : Nat}

/- an object that is kept for good -/
theorem obj_post {envs : List Env} {g : Heap} {s : Shared} {k : KV} {o : Out} {Q : Value → Shared → Prop} (hQ : CallPost W envs g s k o Q) {c : Addr} {cns : List Str} {cvs : List PV} {x d : Addr} {g' : Heap} {s' : Shared} (hk : k (.obj c cns cvs) [] = o) (st : Step [] g s.heap g' s'.heap) (kn : Kn W g')
    (kp : g'.StaysIn s'.heap) (ca : CellAt g' s'.heap (x, d) (.inst c cns cvs)) (hd : s.heap.get? d = none) (sm : Same s s') : Q (.ref x) s' := by
  refine nn fun nG => ?_
  obtain ⟨hx, ws, hn, hr, hl⟩ := ca
  refine nG ?_
  have sg : g'.StaysIn (Mine.ext g' s'.heap [d]) := ext_stays kp
  refine hQ _ _ [] (Mine.ext g' s'.heap [d]) s' hk ⟨st.up, StaysIn.trans st.gg sg, fun b o e nn z => ext_none (st.gn b o e nn z) fun q => by rw [List.mem_singleton.mp q, hd] at e; cases e⟩ (kn.keeps sg) ext_in ?_ sm
  show Rep _ (.obj c cns cvs) _
  simp only [Rep]
  refine nn fun nG => ?_
  obtain ⟨o', es, ep, e1, e2, e3, e4, e5⟩ := hn
  refine nG ?_
  exact ⟨x, d, ws, rfl, sg _ _ hx, ⟨o', es, ep, (ext_new (by simp)).trans e1, e2, e3, e5⟩, hr.mono sg, hl⟩

theorem clsO_cases {a : Addr} {ps : List PV} {k : KV} {o : Out} (h : clsO a ps k = o) (ho : o ≠ .stuck) :
    (a = 52 ∧ ∃ x i, ps = [x, .int i] ∧ k (.cell 0) [.exc] = o) ∨ (a = 175 ∧ ∃ x y z, ps = [x, y, z] ∧ k (.obj 175 [sOf "name", sOf "local", sOf "domain"] [x, y, z]) [] = o) ∨
    (a = 201 ∧ ∃ x y, ps = [x, y] ∧ k (.obj 201 [sOf "name", sOf "members"] [x, y]) [] = o) ∨
    (a = 288 ∧ ∃ x y, ps = [x, y] ∧ k (.cell 0) [.inst 288 [sOf "tokens", sOf "at", sOf "length"] [x, .int 0, y]] = o) := by
  delta clsO at h
  generalize e1 : Nat.beq a 52 = c at h
  induction c using Bool.casesOn with
  | true =>
    rcases ps with _ | ⟨x, _ | ⟨q, _ | ⟨_, _⟩⟩⟩
    · exact (ho h.symm).elim
    · exact (ho h.symm).elim
    · induction q using PV.casesOn with
      | int i => exact .inl ⟨Nat.eq_of_beq_eq_true e1, x, i, rfl, h⟩
      | _ => exact (ho h.symm).elim
    · exact (ho h.symm).elim
  | false =>
    generalize e2 : Nat.beq a 175 = c at h
    induction c using Bool.casesOn with
    | true =>
      rcases ps with _ | ⟨x, _ | ⟨y, _ | ⟨z, _ | ⟨_, _⟩⟩⟩⟩
      · exact (ho h.symm).elim
      · exact (ho h.symm).elim
      · exact (ho h.symm).elim
      · exact .inr (.inl ⟨Nat.eq_of_beq_eq_true e2, x, y, z, rfl, h⟩)
      · exact (ho h.symm).elim
    | false =>
      generalize e3 : Nat.beq a 201 = c at h
      induction c using Bool.casesOn with
      | true =>
        rcases ps with _ | ⟨x, _ | ⟨y, _ | ⟨_, _⟩⟩⟩
        · exact (ho h.symm).elim
        · exact (ho h.symm).elim
        · exact .inr (.inr (.inl ⟨Nat.eq_of_beq_eq_true e3, x, y, rfl, h⟩))
        · exact (ho h.symm).elim
      | false =>
        generalize e4 : Nat.beq a 288 = c at h
        induction c using Bool.casesOn with
        | true =>
          rcases ps with _ | ⟨x, _ | ⟨y, _ | ⟨_, _⟩⟩⟩
          · exact (ho h.symm).elim
          · exact (ho h.symm).elim
          · exact .inr (.inr (.inr ⟨Nat.eq_of_beq_eq_true e4, x, y, rfl, h⟩))
          · exact (ho h.symm).elim
        | false => exact (ho h.symm).elim
theorem cls_ok (OK : OrcOk W rm (O n)) {a : Addr} {ps : List PV} {k : KV} {o : Out} (ha : a ≠ 52) (h : clsO a ps k = o) (ho : o ≠ .stuck) {envs : List Env} {A : Around} {g : Heap} {s : Shared} {vs : List Value} {Q E : Value → Shared → Prop} (R : Ready W envs A (rm + 2) g s) (ra : Reps g ps vs)
    (hQ : CallPost W envs g s k o Q) (hE : CallExc W envs [] g s o E) : wpAny W.M A (call (.ref a) vs) Q E s := by
  rcases clsO_cases h ho with ⟨e, _⟩ | ⟨rfl, x, y, z, rfl, hw⟩ | ⟨rfl, x, y, rfl, hw⟩ | ⟨rfl, x, y, rfl, hw⟩
  · exact absurd e ha
  · have h := hw
    refine nn fun nG => ?_
    obtain ⟨m1, m2, m3, _⟩ := clsOk_of (cls175 W)
    obtain ⟨fd, F⟩ := ff165 W
    have ra' := ra
    simp only [Reps] at ra'
    obtain ⟨v1, _, rfl, r1, v2, _, rfl, r2, v3, _, rfl, r3, rfl⟩ := ra'
    refine nG ?_
    refine cls_call m1 m2 m3 F OK (n := FU) (K := fun c ns vs => k (.obj c ns vs) []) (o := o) (by kernel_rfl) ?_ ho R ra (fun c' cns cvs x d g' s' hk st kn kp ca cg hd sm => obj_post hQ hk st kn kp ca hd sm) hE
    rw [init175, noCell_eq (rep_nocell r1), noCell_eq (rep_nocell r2), noCell_eq (rep_nocell r3)]
    exact h
  · have h := hw
    refine nn fun nG => ?_
    obtain ⟨m1, m2, m3, _⟩ := clsOk_of (cls201 W)
    obtain ⟨fd, F⟩ := ff193 W
    have ra' := ra
    simp only [Reps] at ra'
    obtain ⟨v1, _, rfl, r1, v2, _, rfl, r2, rfl⟩ := ra'
    refine nG ?_
    refine cls_call m1 m2 m3 F OK (n := FU) (K := fun c ns vs => k (.obj c ns vs) []) (o := o) (by kernel_rfl) ?_ ho R ra (fun c' cns cvs x d g' s' hk st kn kp ca cg hd sm => obj_post hQ hk st kn kp ca hd sm) hE
    rw [init201, noCell_eq (rep_nocell r1), noCell_eq (rep_nocell r2)]
    exact h
  · have h := hw
    refine nn fun nG => ?_
    obtain ⟨m1, m2, m3, _⟩ := clsOk_of (cls288 W)
    obtain ⟨fd, F⟩ := ff229 W
    have ra' := ra
    simp only [Reps] at ra'
    obtain ⟨v1, _, rfl, r1, v2, _, rfl, r2, rfl⟩ := ra'
    refine nG ?_
    refine cls_call m1 m2 m3 F OK (n := FU) (K := fun c ns vs => k (.cell 0) [.inst c ns vs]) (o := o) (by kernel_rfl) ?_ ho R ra (fun c' cns cvs x d g' s' hk st kn kp ca cg hd sm => ?_) hE
    · rw [init288, noCell_eq (rep_nocell r1), noCell_eq (rep_nocell r2)]
      exact h
    · exact hQ _ _ _ g' s' hk st kn kp ⟨x, d, rfl, ca, cg, Free.none hd⟩ sm
end
end Mine
end
section
set_option maxRecDepth 100000
namespace Mine
open PySem PySem.W PyProof.Rows PySem.Spec PySem.Calls PySem.SeqAt

theorem lookG_ok {x : Str} {p : PV} : ∀ {l : List (Str × PV)}, lookG x l = some p → (x, p) ∈ l
  | [], h => by exact nns h
  | (y, q) :: r, h => by
    unfold lookG at h
    split at h
    · rename_i e
      cases h
      rw [seq_iff.mp e]
      exact .head _
    · exact .tail _ (lookG_ok h)
theorem lookF_ok {x : Str} {p : PV} : ∀ {l : List (String × Nat)}, lookF x l = some p → ∃ y a, (y, a) ∈ l ∧ sOf y = x ∧ p = .raw (.ref a)
  | [], h => by exact nns h
  | (y, a) :: r, h => by
    unfold lookF at h
    split at h
    · rename_i e
      cases h
      exact ⟨y, a, .head _, seq_iff.mp e, rfl⟩
    · obtain ⟨y', a', hm, r⟩ := lookF_ok h
      exact ⟨y', a', .tail _ hm, r⟩
theorem lookS_ok {x : Str} {p : PV} {f : String → Value} : ∀ {l : List String}, lookS x f l = some p → ∃ y, y ∈ l ∧ sOf y = x ∧ p = .raw (f y)
  | [], h => by exact nns h
  | y :: r, h => by
    unfold lookS at h
    split at h
    · rename_i e
      cases h
      exact ⟨y, .head _, seq_iff.mp e, rfl⟩
    · obtain ⟨y', hm, r⟩ := lookS_ok h
      exact ⟨y', .tail _ hm, r⟩
theorem orO_some {α : Type} {a b : Option α} {x : α} (h : orO a b = some x) : a = some x ∨ b = some x := by
  induction a using Option.casesOn with
  | some y => exact .inl h
  | none => exact .inr h

theorem fn_names (W : Wd) : (fnT.all fun e => nsIn W.K mainGlobals (sOf e.1) == some (some (.ref e.2))) = true := by kernel_rfl
theorem blt_names (W : Wd) : (bltT.all fun e => (nsIn W.K mainGlobals (sOf e) == some none) && (bootBuiltins (sOf e) == some (.builtin e)) && !(seq (sOf e) (sOf "__name__"))) = true := by kernel_rfl
theorem typ_names (W : Wd) : (typT.all fun e => (nsIn W.K mainGlobals (sOf e) == some none) && (bootBuiltins (sOf e) == some (.type e)) && !(seq (sOf e) (sOf "__name__"))) = true := by kernel_rfl
noncomputable def glI (W : Wd) (x : Str) : Option Int := match nsIn W.K mainGlobals x with
  | some (some (.int i _)) => some i
  | _ => none
noncomputable def glB (W : Wd) (x : Str) : Option (Array UInt8) := match nsIn W.K mainGlobals x with
  | some (some (.bytes i _)) => some i
  | _ => none
noncomputable def glS (W : Wd) (x : Str) : Option Str := match nsIn W.K mainGlobals x with
  | some (some (.str i _)) => some i
  | _ => none
noncomputable def glT (W : Wd) : Option (List Int) := match W.K.lookup 55 with
  | some ⟨.type "tuple", none, .seq vs _, _⟩ => (match vs.toList with
    | [.int a _, .int b _, .int c _] => some [a, b, c]
    | _ => none)
  | _ => none
theorem gl1 (W : Wd) : glI W (sOf "MOST_DEPTH") = some 20 := by kernel_rfl
theorem gl2 (W : Wd) : glB W (sOf "SIGNS") = some ([60, 62, 64, 44, 59, 58, 46, 92].map fun n => UInt8.ofNat n).toArray := by kernel_rfl
theorem gl3 (W : Wd) : glB W (sOf "ATOM_SIGNS") = some ([33, 35, 36, 37, 38, 39, 42, 43, 45, 47, 61, 63, 94, 95, 96, 123, 124, 125, 126].map fun n => UInt8.ofNat n).toArray := by kernel_rfl
theorem gl4 (W : Wd) : nsIn W.K mainGlobals (sOf "NEVER_ESCAPED") = some (some (.ref 55)) := by kernel_rfl
theorem gl5 (W : Wd) : glT W = some [0, 10, 13] := by kernel_rfl
theorem gl6 (W : Wd) : glS W (sOf "_law_barred") = some ⟨#[40, 41, 60, 62, 91, 93, 58, 59, 64, 92, 44, 46, 34]⟩ := by kernel_rfl

set_option tactic.hygienic true in
theorem glob_ok (W : Wd) {x : Str} {p : PV} (h : globO x = some p) : ∃ v, (∀ g, Kn W g → Rep g p v) ∧ ((nsIn W.K mainGlobals x = some (some v)) ∨ (nsIn W.K mainGlobals x = some none ∧ bootBuiltins x = some v ∧ x ≠ PySem.Str.ofString "__name__")) := by
  have z := sizeLine_eq
  unfold globO at h
  rcases orO_some h with h | h
  · have := lookG_ok h
    simp only [globT, List.mem_cons, Prod.mk.injEq, List.not_mem_nil, or_false] at this
    rcases this with ⟨rfl, rfl⟩ | ⟨rfl, rfl⟩ | ⟨rfl, rfl⟩ | ⟨rfl, rfl⟩ | ⟨rfl, rfl⟩
    · have := gl1 W
      unfold glI at this
      split at this
      · rename_i i t e
        cases this
        exact ⟨_, fun g k => ⟨t, rfl⟩, .inl e⟩
      · exact nns this
    · have := gl2 W
      unfold glB at this
      split at this
      · rename_i i t e
        cases this
        exact ⟨_, fun g k => ⟨by skip; decide, t, rfl⟩, .inl e⟩
      · exact nns this
    · have := gl3 W
      unfold glB at this
      split at this
      · rename_i i t e
        cases this
        exact ⟨_, fun g k => ⟨by skip; decide, t, rfl⟩, .inl e⟩
      · exact nns this
    · refine ⟨.ref 55, fun g k => ?_, .inl (gl4 W)⟩
      have := gl5 W
      unfold glT at this
      split at this
      · rename_i vs n sl e
        split at this
        · rename_i a ta b tb c tc e2
          simp only [Option.some.injEq, List.cons.injEq, and_true] at this
          obtain ⟨rfl, rfl, rfl⟩ := this
          simp only [Rep, Reps]
          refine ⟨55, vs.toList, rfl, ?_, ?_, ?_⟩
          · exact ⟨_, k.kin _ _ e, rfl, n, by simp⟩
          · rw [e2]
            exact ⟨_, _, rfl, ⟨_, rfl⟩, _, _, rfl, ⟨_, rfl⟩, _, _, rfl, ⟨_, rfl⟩, rfl⟩
          · rw [e2]; show 3 ≤ 16777216; decide
        · exact nns this
      · exact nns this
    · have := gl6 W
      unfold glS at this
      split at this
      · rename_i i t e
        cases this
        exact ⟨_, fun g k => ⟨by skip; decide, t, rfl⟩, .inl e⟩
      · exact nns this
  rcases orO_some h with h | h
  · obtain ⟨y, a, hm, rfl, rfl⟩ := lookF_ok h
    have := List.all_eq_true.mp (fn_names W) _ hm
    exact ⟨.ref a, fun g k => rfl, .inl (beq_iff_eq.mp this)⟩
  rcases orO_some h with h | h
  · obtain ⟨y, hm, rfl, rfl⟩ := lookS_ok h
    have := List.all_eq_true.mp (blt_names W) _ hm
    simp only [Bool.and_eq_true, beq_iff_eq, Bool.not_eq_true'] at this
    exact ⟨.builtin y, fun g k => rfl, .inr ⟨this.1.1, this.1.2, seq_false this.2⟩⟩
  · obtain ⟨y, hm, rfl, rfl⟩ := lookS_ok h
    have := List.all_eq_true.mp (typ_names W) _ hm
    simp only [Bool.and_eq_true, beq_iff_eq, Bool.not_eq_true'] at this
    exact ⟨.type y, fun g k => rfl, .inr ⟨this.1.1, this.1.2, seq_false this.2⟩⟩

noncomputable def methB (W : Wd) (c : Nat) (x : Str) (a : Nat) : Bool := (findIn W.K (.ref c) (PySem.Str.ofString "__getattribute__") == some (some (.builtin "object.__getattribute__"))) && (findIn W.K (.ref c) (PySem.Str.ofString "__getattr__") == some none) &&
  (findIn W.K (.ref c) x == some (some (.ref a))) && (typeIn W.K (.ref a) == some (.type "function")) && keepIn W.K (.ref a) && !(seq x (sOf "__class__")) && !(seq x (sOf "__dict__"))
theorem meth_names (W : Wd) : (methT.all fun e => methB W e.1 (sOf e.2.1) e.2.2) = true := by kernel_rfl
theorem lookM_ok {c : Nat} {x : Str} {a : Nat} : ∀ {l : List (Nat × String × Nat)}, lookM c x l = some a → ∃ y, (c, y, a) ∈ l ∧ sOf y = x
  | [], h => by exact nns h
  | (d, y, b) :: r, h => by
    unfold lookM at h
    split at h
    · rename_i e
      cases h
      rw [Bool.and_eq_true] at e
      have := Nat.eq_of_beq_eq_true e.1
      subst this
      exact ⟨y, .head _, seq_iff.mp e.2⟩
    · obtain ⟨y', hm, r⟩ := lookM_ok h
      exact ⟨y', .tail _ hm, r⟩
theorem hasF_ok {c : Nat} {x : Str} : ∀ {l : List (Nat × String)}, hasF c x l = true → ∃ y, (c, y) ∈ l ∧ sOf y = x
  | [], h => by exact nft h
  | (d, y) :: r, h => by
    unfold hasF at h
    split at h
    · rename_i e
      rw [Bool.and_eq_true] at e
      have := Nat.eq_of_beq_eq_true e.1
      subst this
      exact ⟨y, .head _, seq_iff.mp e.2⟩
    · obtain ⟨y', hm, r⟩ := hasF_ok h
      exact ⟨y', .tail _ hm, r⟩
noncomputable def fldB (W : Wd) (c : Nat) (x : Str) : Bool := (findIn W.K (.ref c) (PySem.Str.ofString "__getattribute__") == some (some (.builtin "object.__getattribute__"))) && hasDictIn W.K c && (findIn W.K (.ref c) x == some none) &&
  (findIn W.K (.ref c) (PySem.Str.ofString "__setattr__") == some (some (.builtin "object.__setattr__"))) && plainOver W.K c && (takerIn W.K c x == some none)
theorem fld_names (W : Wd) : (fldT.all fun e => fldB W e.1 (sOf e.2)) = true := by kernel_rfl

theorem isi1 (W : Wd) : isIn W.K (.ref 201) 201 = true := by kernel_rfl
theorem isi2 (W : Wd) : (kin_not W.K 175 201 && plainGet W.K 175 (PySem.Str.ofString "__class__") && hasDictIn W.K 175 && (findIn W.K (.ref 175) (PySem.Str.ofString "__class__") == some (some (.builtin "object.__class__"))) &&
  (specialIn W.K (.builtin "object.__class__") (PySem.Str.ofString "__get__") == some (some (.builtin "getset_descriptor.__get__"))) && (takesIn W.K (.builtin "object.__class__") == some true) && (mroIn W.K 175 (.type "object") == some true)) = true := by kernel_rfl
theorem x52_ok (W : Wd) : ((subIn W.K (.ref 52) (.type "BaseException") == some true) && (typeIn W.K (.ref 52) == some (.type "type")) && keepIn W.K (.ref 52)) = true := by kernel_rfl

set_option tactic.hygienic true in
theorem static_ok (W : Wd) : (∀ c x, hasF c x fldT = true → findIn W.K (.ref c) (PySem.Str.ofString "__getattribute__") = some (some (.builtin "object.__getattribute__")) ∧ hasDictIn W.K c = true ∧ (∃ a, findIn W.K (.ref c) x = some a ∧ noGet W.K a = true) ∧
    findIn W.K (.ref c) (PySem.Str.ofString "__setattr__") = some (some (.builtin "object.__setattr__")) ∧ plainOver W.K c = true ∧ takerIn W.K c x = some none) ∧
  (∀ c d b, isiO c d = some b → match b with
    | true => isIn W.K (.ref c) d = true
    | false => kin_not W.K c d = true ∧ plainGet W.K c (PySem.Str.ofString "__class__") = true ∧ hasDictIn W.K c = true ∧ findIn W.K (.ref c) (PySem.Str.ofString "__class__") = some (some (.builtin "object.__class__")) ∧
        specialIn W.K (.builtin "object.__class__") (PySem.Str.ofString "__get__") = some (some (.builtin "getset_descriptor.__get__")) ∧ takesIn W.K (.builtin "object.__class__") = some true ∧ mroIn W.K c (.type "object") = some true) ∧
  (∀ c x a, lookM c x methT = some a → findIn W.K (.ref c) (PySem.Str.ofString "__getattribute__") = some (some (.builtin "object.__getattribute__")) ∧ findIn W.K (.ref c) (PySem.Str.ofString "__getattr__") = some none ∧
    findIn W.K (.ref c) x = some (some (.ref a)) ∧ typeIn W.K (.ref a) = some (.type "function") ∧ keepIn W.K (.ref a) = true ∧ x ≠ PySem.Str.ofString "__class__" ∧ x ≠ PySem.Str.ofString "__dict__") := by
  refine ⟨fun c x h => ?_, fun c d b h => ?_, fun c x a h => ?_⟩
  · refine nn fun nG => ?_
    obtain ⟨y, hm, rfl⟩ := hasF_ok h
    refine nG ?_
    have := List.all_eq_true.mp (fld_names W) _ hm
    unfold fldB at this
    simp only [Bool.and_eq_true, beq_iff_eq] at this
    exact ⟨this.1.1.1.1.1, this.1.1.1.1.2, ⟨none, this.1.1.1.2, rfl⟩, this.1.1.2, this.1.2, this.2⟩
  · unfold isiO at h
    split at h
    · rename_i e1
      have := Nat.eq_of_beq_eq_true e1
      subst this
      split at h
      · rename_i e2
        have := Nat.eq_of_beq_eq_true e2
        subst this
        cases h
        exact isi1 W
      · rename_i e3 e2
        have := Nat.eq_of_beq_eq_true e3
        subst this
        cases h
        have := isi2 W
        simp only [Bool.and_eq_true, beq_iff_eq] at this
        exact ⟨this.1.1.1.1.1.1, this.1.1.1.1.1.2, this.1.1.1.1.2, this.1.1.1.2, this.1.1.2, this.1.2, this.2⟩
      · exact nns h
    · exact nns h
  · refine nn fun nG => ?_
    obtain ⟨y, hm, rfl⟩ := lookM_ok h
    refine nG ?_
    have := List.all_eq_true.mp (meth_names W) _ hm
    unfold methB at this
    simp only [Bool.and_eq_true, beq_iff_eq, Bool.not_eq_true'] at this
    exact ⟨this.1.1.1.1.1.1, this.1.1.1.1.1.2, this.1.1.1.1.2, this.1.1.1.2, this.1.1.2, seq_false this.1.2, seq_false this.2⟩

theorem orc0_ok (W : Wd) : OrcOk W 0 (O 0) := by
  obtain ⟨s1, s2, s3⟩ := static_ok W
  have x := x52_ok W
  simp only [Bool.and_eq_true, beq_iff_eq] at x
  exact ⟨fun a ps k o h ho => absurd h.symm ho, fun a ps k o h ho => absurd h.symm ho, fun a c ps k o h ho => absurd h.symm ho, fun a c ps k o h ho => absurd h.symm ho, s1, s2, ⟨x.1.1, x.1.2⟩, fun x p h => glob_ok W h, s3⟩
end Mine
end
section
set_option maxRecDepth 100000
namespace Mine
open PySem PySem.W PyProof.Rows PySem.Spec PySem.Calls PySem.SeqAt

noncomputable abbrev bm52 : List Value := [.ref 39, .type "Exception", .type "BaseException", .type "object"]
noncomputable abbrev cls52 : Obj := excClassObj (PySem.Str.ofString "WordFault") (PySem.Str.ofString "WordFault") 52 51 [.ref 39] bm52 true [] [] false none none (some (.ref 43)) none (some (.str (PySem.Str.ofString "WordFault") 229)) (some (.str (PySem.Str.ofString "WordFault") 237)) (some (.bool true)) "Exception.__new__"
theorem k52 (W : Wd) : W.K.lookup 52 = some cls52 := by kernel_rfl
theorem i52 (W : Wd) : findIn W.K (.ref 52) (PySem.Str.ofString "__init__") = some (some (.ref 29)) := by kernel_rfl
theorem t29 (W : Wd) : typeIn W.K (.ref 29) = some (.type "function") := by kernel_rfl
set_option tactic.hygienic true in
theorem ff29 (W : Wd) : ∃ fd, FnFacts W 29 fd (fBody (inCls 1 0)) (fNames (inCls 1 0)) (fArgs (inCls 1 0)) := by
  refine ⟨_, ⟨⟨_, _, _, rfl⟩, by kernel_rfl, by kernel_rfl, by kernel_rfl, by kernel_rfl, by kernel_rfl, by kernel_rfl, by kernel_rfl, by kernel_rfl, by kernel_rfl, ?_, ?_, ?_, by kernel_rfl⟩⟩
  · intro x hx
    have := List.all_eq_true.mp (show plainNames (fNames (inCls 1 0)) = true by kernel_rfl) x hx
    intro q
    rw [q] at this; exact nft this
  · intro vs h s X
    obtain ⟨a, b, c, rfl⟩ := len3 (h.trans (by kernel_rfl : _ = 3))
    exact binds_K X rfl (rfl : W.K.lookup _ = some _) rfl rfl rfl
  · intro x hx
    have := List.all_eq_true.mp (show locArgs (fNames (inCls 1 0)) (fArgs (inCls 1 0)) = true by kernel_rfl) x hx
    split at this
    · rename_i i e
      exact (slot_lookup e).1
    · exact nft this

section
variable {prog : Program} {w : World} {A : Around} {E : Value → Shared → Prop} {h : Heap} {g : Array GenState} {d : Drawn} {t : Nat} {os : OsState}

theorem c52B : (Value.ref 52 :: bm52).contains (.type "Exception") = true := by decide +kernel
theorem c52A : (Value.ref 52 :: bm52).contains (.type "AttributeError") = false := by decide +kernel
theorem c52N : (Value.ref 52 :: bm52).contains (.type "NameError") = false := by decide +kernel
theorem c52C : (Value.ref 52 :: bm52).contains (.ref 52) = true := by decide +kernel

theorem check_new52 {rest : List Value} {Q : Unit → Shared → Prop} {M : Model} (hC : h.get? 52 = some cls52) (hq : Q () ⟨h, g, d, t, os⟩) : wpAny M A (checkBuiltinCall "Exception.__new__" ⟨.ref 52 :: rest, []⟩) Q E ⟨h, g, d, t, os⟩ := by
  have F := PySem.F.excBase_Exception
  have hcont := c52B
  have hstar := F.noStar
  simp only [checkBuiltinCall, F.newKind, F.newSplit, F.newRow]
  repeat (first | refine wpAny_loadPart_at hC ?_ | (refine wpAny_isSubtype_exc hC ?_; skip) | refine wpAny_staticBase_exc hC ?_ | refine wpAny_madeBy_exc hC ?_ | simp only [bne_self_eq_false, Bool.false_eq_true, if_false] | wp_step)
  exact hq
theorem new52 {R : Result → Shared → Prop} {rest : List Value} (hC : h.get? 52 = some cls52)
    (hq : R (.ok (.ret (.ref (h.objs.size + 1)))) ⟨(h.push { cls := .type "tuple", data := .seq rest.toArray }).push
      { cls := .ref 52, data := .fields #[.ref h.objs.size, .none, .none, .none, .bool false, .none] }, g, d, t, os⟩) (hrest : rest.length ≤ sizeLine) :
    codeAny (model prog w) A (.builtin "Exception.__new__" ⟨.ref 52 :: rest, []⟩) R ⟨h, g, d, t, os⟩ := by
  have F := PySem.F.excBase_Exception
  have hends := F.ends
  have hcB := c52B
  have hcA := c52A
  have hcN := c52N
  refine codeAny_builtinAt F.entry ?_
  unfold Builtin.«BaseException.__new__»
  refine PySem.wpAt_bind ?_
  show PySem.wpAt _ _ _ (stack >>= _) _ _ _
  refine PySem.wpAt_bind (PySem.wpAt_stack fun p below => PySem.wpAt_of_wpAny ?_)
  wp_walk
  refine PySem.wpAt_of_wpAny ?_
  rw [F.owner]
  repeat (first | with_reducible refine wpAny_madeHere_exc F.canon hC ?_ | with_reducible refine wpAny_loadPart_at hC ?_ | (with_reducible refine wpAny_isSubtype_exc hC ?_; first | skip | rw [hcA] | rw [hcN]) | wp_step)
  show R _ _
  rw [Heap.size_push]
  exact hq

theorem call52 {W : Wd} {R : Result → Shared → Prop} {rest : List Value} (X : W.K.In h) (hrest : rest.length ≤ sizeLine)
    (hq : ∀ h' e, Heap.MadeExcOf h h' e (.ref 52) rest → wpAny W.M (A.under (.builtin "type.__call__" ⟨.ref 52 :: rest, []⟩)) (call (.ref 29) (.ref e :: rest)) (fun r s' => r = .none ∧ R (.ok (.ret (.ref e))) s') (fun e s' => R (.error e) s') ⟨h', g, d, t, os⟩) :
    codeAny W.M A (.call (.ref 52) ⟨rest, []⟩) R ⟨h, g, d, t, os⟩ := by
  have hC : h.get? 52 = some cls52 := X _ _ (k52 W)
  have F := PySem.F.excBase_Exception
  have f1 := tc_lookup
  have f2 := tc_bind (.ref 52)
  have hT : (⟨h, g, d, t, os⟩ : Shared).TypeIs (.ref 52) "type" := ⟨_, hC, rfl⟩
  refine codeAny_of_tree ?_
  show wpAny _ _ (callAny (.ref 52) _) _ _ _
  repeat (any_goals (first | assumption | with_reducible refine wpAny_loadPart_at hC ?_ | wp_step))
  refine ⟨rfl, ?_⟩
  refine codeAny_call_builtin_at (Code.quiet_builtin _ (by decide +kernel)) entry_typeCall (wpAny_check_type_call_sub hC ?_)
  repeat (first | with_reducible refine wpAny_loadPart_at hC ?_ | with_reducible refine wpAny_madeBy_exc hC ?_ | wp_step)
  refine codeAny_call_builtin_code (Code.quiet_builtin _ F.quiet) (check_new52 hC ?_)
  refine new52 hC ?_ hrest
  show wpAny _ _ _ _ _ _
  have k2 : ∀ b o, h.get? b = some o → ((h.push { cls := .type "tuple", data := .seq rest.toArray }).push { cls := .ref 52, data := .fields #[.ref h.objs.size, .none, .none, .none, .bool false, .none] }).get? b = some o := fun b o hb => Heap.get?_push_of_some _ (Heap.get?_push_of_some _ hb)
  have X2 : W.K.In ((h.push { cls := .type "tuple", data := .seq rest.toArray }).push { cls := .ref 52, data := .fields #[.ref h.objs.size, .none, .none, .none, .bool false, .none] }) := X.keeps k2
  have hC₁ := X2 _ _ (k52 W)
  have hget : ((h.push { cls := .type "tuple", data := .seq rest.toArray }).push
      { cls := .ref 52, data := .fields #[.ref h.objs.size, .none, .none, .none, .bool false, .none] }).get? (h.objs.size + 1) = some
      { cls := .ref 52, data := .fields #[.ref h.objs.size, .none, .none, .none, .bool false, .none] } := by heap_get
  have hcC := c52C
  unfold isInstance
  repeat (first | with_reducible refine wpAny_loadPart_at hget ?_ | (with_reducible refine wpAny_isSubtype_exc hC₁ ?_; rw [hcC]) | wp_step)
  refine wpAny_isSubtype_exc (C := 52) hC₁ ?_
  skip
  skip
  unfold callSpecial? specialOf
  repeat (first | with_reducible refine wpAny_loadPart_at hget ?_ | wp_step)
  show wpAny _ _ (typeLookup (.ref 52) _) _ _ _
  refine (looks_findIn X2 (i52 W)).here ?_
  refine wpAny_holding (wpAny_bind ?_)
  refine (bind_fn X2 (.ref (h.objs.size + 1)) (t29 W)).here ?_
  refine wpAny_bind (wpAny_mono (hq _ (h.objs.size + 1) ⟨k2, Heap.get?_none_of_le (Nat.le_succ _), h.objs.size, hget, Heap.get?_none_of_le (Nat.le_refl _), ?_⟩) (fun r s' hr => ?_) fun ζ ζ x => x)
  · exact Heap.get?_push_of_some _ (Heap.get?_push_at rfl rfl)
  · obtain ⟨rfl, hQ⟩ := hr
    wp_walk
    exact hQ
end
end Mine
end
section
set_option maxRecDepth 100000
namespace Mine
open PySem PySem.W PyProof.Rows PySem.Spec PySem.Calls PySem.SeqAt

theorem ref52 (x : Addr) : refuseLoop (.ref x) (PySem.Str.ofString "__setattr__") [.ref 52, .ref 39, .type "Exception", .type "BaseException", .type "object"] = pure () := by kernel_rfl
noncomputable def cls52Ok (W : Wd) : Bool := (findIn W.K (.ref 52) (PySem.Str.ofString "__setattr__") == some (some (.builtin "object.__setattr__"))) && (takerIn W.K 52 (PySem.Str.ofString "what") == some none) && (takerIn W.K 52 (PySem.Str.ofString "at") == some none) &&
  hasDictIn W.K 52 && (mroIn W.K 52 (.type "object") == some true)
theorem cls52_ok (W : Wd) : cls52Ok W = true := by kernel_rfl
theorem clsIn52 (W : Wd) : (clsIn W.K 52).map (·.mro) = some [.ref 52, .ref 39, .type "Exception", .type "BaseException", .type "object"] := by kernel_rfl
theorem exc_name (W : Wd) : nsIn W.K mainGlobals (PySem.Str.ofString "Exception") = some none := by kernel_rfl
theorem exc_meth (W : Wd) : findCls W.K (.type "Exception") (.type "type") (PySem.Str.ofString "__init__") = some (.val (.builtin "Exception.__init__")) := by kernel_rfl

section
variable {W : Wd} {A : Around} {E : Value → Shared → Prop} {s : Shared}

theorem osa52 {e : Addr} {ox : Obj} {od : Option Obj} {name : Str} {tk : Tok} {v : Value} {R : Result → Shared → Prop} (X : W.K.In s.heap) (I : InstAt s.heap e ox 52 od) (ht : takerIn W.K 52 name = some none)
    (h : ∀ b, wpAny W.M A.in1 (Builtin.ObjectAttr.storeInOwnDict (.ref e) (.ref 52) (.str name tk) name v b)
      (fun fin s' => match fin with | .done f => R (.ok f) s' | .again c' => c'.quiet = true ∧ codeAny W.M A c' R s') (fun e s' => R (.error e) s') s) :
    codeAny W.M A (.call (.builtin "object.__setattr__") ⟨[.ref e, .str name tk, v], []⟩) R s := by
  have SF := PySem.F.store_object
  have ok := cls52_ok W
  unfold cls52Ok at ok
  simp only [Bool.and_eq_true, beq_iff_eq] at ok
  refine nn fun nG => ?_
  obtain ⟨cd, hc, hm0⟩ := Option.map_eq_some_iff.mp (clsIn52 W)
  refine nG ?_
  have sub : Looks W.M s.heap (isInstance (.ref e) (.type "object")) true := I.type.andThen (looks_mroIn X ok.2)
  refine codeAny_call_builtin SF.slot.plain SF.entry (@check_slot W.M _ _ s "object.__setattr__" "object" "__setattr__" (.ref e) [.str name tk, v] [] _ SF.kind SF.split sub (SF.args (.ref e) (.str name tk) v) ?_)
  refine nn fun nG => ?_
  obtain ⟨attr, ha, hr⟩ := Option.bind_eq_some_iff.mp ht
  refine nG ?_
  have hm : Looks W.M s.heap (mroOf (.ref 52)) cd.mro := (looks_clsIn X hc).andThen .now
  have L3 : Looks W.M s.heap (Builtin.ObjectAttr.storeTaker? attr) none := by
    induction attr using Option.casesOn with
    | none => exact .now
    | some a =>
      obtain ⟨b, hb, e'⟩ := Option.map_eq_some_iff.mp hr
      refine (looks_takesIn X hb).andThen ?_
      cases b
      · exact .now
      · exact nsn e'
  rw [osa_eq, refuse_eq]
  refine wpAny_bind (wpAny_bind (I.type.here (wpAny_bind (hm.here ?_))))
  rw [hm0]
  refine wpAny_pure (wpAny_bind (I.type.here (wpAny_bind ((looks_findIn X ha).here (wpAny_bind (L3.here ?_))))))
  exact h _

theorem set_first {e : Addr} {vs : Array Value} {sl : Array (Option Value)} {name : Str} {v : Value} {Q : Unit → Shared → Prop} (X : W.K.In s.heap) (he : s.heap.get? e = some ⟨.ref 52, none, .fields vs, sl⟩) (ht : takerIn W.K 52 name = some none)
    (hq : ∀ h' tk d, s.heap.get? d = none → d ≠ e → (∀ b o, b ≠ e → s.heap.get? b = some o → h'.get? b = some o) → h'.get? e = some ⟨.ref 52, some d, .fields vs, sl⟩ → (∃ m ns, h'.Ns1 d m ∧ Within m ns ∧ ns.length ≤ 1) → Q () { s with heap := h', toks := tk }) :
    wpAny W.M A (setAttr (.ref e) name v) Q E s := by
  have ok := cls52_ok W
  unfold cls52Ok at ok
  simp only [Bool.and_eq_true, beq_iff_eq] at ok
  refine nn fun nG => ?_
  obtain ⟨cd, hc, hd'⟩ := any_some ok.1.2
  refine nG ?_
  have I : InstAt s.heap e ⟨.ref 52, none, .fields vs, sl⟩ 52 none := ⟨he, rfl, rfl, trivial⟩
  refine set_plain X I ok.1.1.1.1 (osa52 (s := { s with toks := s.toks + 1 }) X I ht fun b => ?_)
  obtain ⟨h, g, dr, t, os⟩ := s
  have he : h.get? e = some ⟨.ref 52, none, .fields vs, sl⟩ := he
  have X : W.K.In h := X
  refine wpAny_bind (wpAny_pure (wpAny_bind (wpAny_bind (wpAny_loadPart he (wpAny_bind ((looks_clsIn X hc).here ?_))))))
  rw [hd']
  have he₁ : (h.push { cls := .type "dict", data := .dict #[] }).get? e = some ⟨.ref 52, none, .fields vs, sl⟩ := Heap.get?_push_of_some _ he
  have hes : e ≠ h.objs.size := Nat.ne_of_lt (Heap.lt_size he)
  refine wpAny_bind (wpAny_alloc' ?_)
  refine wpAny_bind (wpAny_update' he₁ ?_)
  refine wpAny_pure (a := some h.objs.size) ?_
  have hgd : ((h.push { cls := .type "dict", data := .dict #[] }).update e fun o => { cls := o.cls, dict := some h.objs.size, data := o.data, slots := o.slots }).get? h.objs.size = some { cls := .type "dict", data := .dict #[] } :=
    (Heap.get?_update_other _ _ hes).trans (Heap.get?_push_at rfl rfl)
  have hge : ((h.push { cls := .type "dict", data := .dict #[] }).update e fun o => { cls := o.cls, dict := some h.objs.size, data := o.data, slots := o.slots }).get? e = some ⟨.ref 52, some h.objs.size, .fields vs, sl⟩ :=
    Heap.get?_update_self _ he₁ rfl
  have hnd : ((h.push { cls := .type "dict", data := .dict #[] }).update e fun o => { cls := o.cls, dict := some h.objs.size, data := o.data, slots := o.slots }).Ns h.objs.size (fun ζ => none) :=
    ⟨_, #[], _, hgd, rfl, fun e he => absurd he (by simp), fun ζ => rfl⟩
  show wpAny _ _ (Builtin.ObjectAttr.storeInDict h.objs.size (.str name _) name v) _ _ _
  unfold Builtin.ObjectAttr.storeInDict Builtin.ObjectAttr.newKeyGuard
  refine wpAny_bind (wpAny_pure (wpAny_bind (wpAny_nsSet1 (Heap.Ns1.of_empty hnd) fun h' hn' hs => ?_)))
  refine nn fun nG => ?_
  obtain ⟨oD, esD, epD, hoD, hdD, hcD⟩ := hn'.count (Within.cons name v Within.nil)
  refine nG ?_
  refine wpAny_bind (wpAny_lookBehind hoD (by rw [hdD]; exact pastItsLine_dict (Nat.le_trans hcD (by skip; exact chk [] .z 1 (.a (.n 0) (.n 1)) (.a (.n 16777216) (.n 1)) rfl))) ?_)
  refine wpAny_pure (hq h' _ h.objs.size (Heap.get?_none_of_le (Nat.le_refl _)) hes.symm (fun b o hb e' => ?_) ?_ ⟨_, [name], hn', Within.cons name v Within.nil, by simp⟩)
  · exact (hs.2 b (Nat.ne_of_lt (Heap.lt_size e'))).trans ((Heap.get?_update_other _ _ (Ne.symm hb)).trans (Heap.get?_push_of_some _ e'))
  · exact (hs.2 e hes).trans hge

theorem set_next {e d : Addr} {vs : Array Value} {sl : Array (Option Value)} {name : Str} {v : Value} {m : Str → Option Value} {ns : List Str} {Q : Unit → Shared → Prop} (X : W.K.In s.heap) (he : s.heap.get? e = some ⟨.ref 52, some d, .fields vs, sl⟩) (ht : takerIn W.K 52 name = some none)
    (hn : s.heap.Ns1 d m) (hw : Within m ns) (hz : ns.length ≤ 10) (hne : d ≠ e)
    (hq : ∀ h' tk, Heap.SameBut d s.heap h' → Q () { s with heap := h', toks := tk }) :
    wpAny W.M A (setAttr (.ref e) name v) Q E s := by
  have ok := cls52_ok W
  unfold cls52Ok at ok
  simp only [Bool.and_eq_true, beq_iff_eq] at ok
  refine nn fun nG => ?_
  obtain ⟨cd, hc, hd'⟩ := any_some ok.1.2
  obtain ⟨od, hod, _⟩ := lookIn_ns hn.ns
  refine nG ?_
  have I : InstAt s.heap e ⟨.ref 52, some d, .fields vs, sl⟩ 52 (some od) := ⟨he, rfl, rfl, hod⟩
  refine set_plain X I ok.1.1.1.1 (osa52 (s := { s with toks := s.toks + 1 }) X I ht fun b => ?_)
  obtain ⟨h, g, dr, t, os⟩ := s
  have he : h.get? e = some ⟨.ref 52, some d, .fields vs, sl⟩ := he
  have X : W.K.In h := X
  have hn : h.Ns1 d m := hn
  refine wpAny_bind (wpAny_pure (wpAny_bind (wpAny_bind (wpAny_loadPart he (wpAny_bind ((looks_clsIn X hc).here ?_))))))
  rw [hd']
  refine wpAny_pure (a := some d) (wpAny_bind (wpAny_pure (wpAny_bind ?_)))
  refine wpAny_nsSet1 hn fun h' hn' hs' => ?_
  refine nn fun nG => ?_
  obtain ⟨oD, esD, epD, hoD, hdD, hcD⟩ := hn'.count (Within.cons name v hw)
  refine nG ?_
  refine wpAny_bind (wpAny_lookBehind hoD (by rw [hdD]; exact pastItsLine_dict (Nat.le_trans hcD (by skip; exact chk [_] (.h 1 (.v 0) (.n 10) .z) 1 (.a (.v 0) (.n 1)) (.a (.n 16777216) (.n 1)) rfl hz))) ?_)
  exact wpAny_pure (hq h' _ hs')

theorem exc_init {e : Addr} {dct : Option Addr} {vs : Array Value} {sl : Array (Option Value)} {v a0 : Value} {Q : Value → Shared → Prop} (X : W.K.In s.heap) (he : s.heap.get? e = some ⟨.ref 52, dct, .fields vs, sl⟩) (h0 : vs[0]? = some a0)
    (hq : ∀ h' tk t, (∀ b o, b ≠ e → s.heap.get? b = some o → h'.get? b = some o) → h'.get? e = some ⟨.ref 52, dct, .fields (vs.setIfInBounds 0 (.ref t)), sl⟩ → Q .none { s with heap := h', toks := tk }) :
    wpAny W.M A (call (.builtin "Exception.__init__") [.ref e, v]) Q E s := by
  have F := PySem.F.excBase_Exception
  have hC : s.heap.get? 52 = some cls52 := X _ _ (k52 W)
  obtain ⟨h, g, dr, t, os⟩ := s
  have hC : h.get? 52 = some cls52 := hC
  have he : h.get? e = some ⟨.ref 52, dct, .fields vs, sl⟩ := he
  have hcB := c52B
  refine wpAny_call (codeAny_call_builtin F.init.plain F.initEntry ?_)
  have hshort := F.noStar
  simp only [checkBuiltinCall, F.initKind, F.initSplit, F.initRow]
  repeat (first | with_reducible refine wpAny_loadPart_at he ?_ | with_reducible refine wpAny_loadPart_at hC ?_ | (with_reducible refine wpAny_isSubtype_exc hC ?_; skip) | wp_step)
  rw [h0]
  refine wpAny_pure ?_
  have hp : (h.push { cls := Value.type "tuple", data := Data.seq #[v] }).get? e = some ⟨.ref 52, dct, .fields vs, sl⟩ := Heap.get?_push_of_some _ he
  have hlt : 0 < vs.size := (Array.getElem?_eq_some_iff.mp h0).1
  refine wpAny_bind (wpAny_setField hp rfl hlt ?_)
  have fin : Q .none { heap := (h.push { cls := Value.type "tuple", data := Data.seq #[v] }).update e (Obj.mapFields (·.setIfInBounds 0 (.ref h.objs.size))), gens := g, drawn := dr, toks := t, os := os } := by
    refine hq _ _ h.objs.size (fun b o hb e' => (Heap.get?_update_other _ _ (Ne.symm hb)).trans (Heap.get?_push_of_some _ e')) ?_
    exact Heap.get?_update_self _ hp rfl
  induction a0 using PySem.Value.casesOn with
  | ref a => exact wpAny_letGo (wpAny_pure fin)
  | _ => exact wpAny_pure (wpAny_pure fin)
end
end Mine
end
section
set_option maxRecDepth 100000
namespace Mine
open PySem PySem.W PyProof.Rows PySem.Spec PySem.Calls PySem.SeqAt

theorem b29 : ∃ p1 p2 p3 p4 p5 p6 q1 q2 q3 q4 r1 r2 r3 r4, fBody (inCls 1 0) = [.Expr (.Call (.Attribute (.Name (Str.ofString "Exception") p1) (Str.ofString "__init__") p2) [.Name (Str.ofString "self") p3, .Name (Str.ofString "what") p4] [] p5) p6,
  .Assign [.Attribute (.Name (Str.ofString "self") q1) (Str.ofString "what") q2] (.Name (Str.ofString "what") q3) q4, .Assign [.Attribute (.Name (Str.ofString "self") r1) (Str.ofString "at") r2] (.Name (Str.ofString "at") r3) r4] ∧ Nat.beq p2.endLine p5.line = true :=
  ⟨_, _, _, _, _, _, _, _, _, _, _, _, _, _, rfl, by kernel_rfl⟩
theorem m29 (a b c : PV) : initL (fNames (inCls 1 0)) ((fNames (inCls 1 0)).map fun ζ => .none) (fArgs (inCls 1 0)) [a, b, c] = [some a, some b, some c, none] := by kernel_rfl
theorem sl29 : slot (Str.ofString "self") (fNames (inCls 1 0)) 0 = some (0, .local) ∧ slot (Str.ofString "what") (fNames (inCls 1 0)) 0 = some (1, .local) ∧ slot (Str.ofString "at") (fNames (inCls 1 0)) 0 = some (2, .local) ∧ slot (Str.ofString "Exception") (fNames (inCls 1 0)) 0 = some (3, .globalImplicit) := by
  refine ⟨?_, ?_, ?_, ?_⟩ <;> kernel_rfl

section
variable {C : Cx} {m : Loc} {g : Heap} {ρ : List (Addr × Addr)} {σ : List Cell} {s : Shared} {E : Value → Shared → Prop} {A : Around}

theorem loc_here (K : C.Ok) (I : At C m g ρ σ s) {x : Str} {i : Nat} {v : PV} (hd : seq x (Str.ofString "__debug__") = false) (hs : slot x C.ns 0 = some (i, .local)) (hv : m[i]? = some (some v)) :
    ∃ u, RepC g ρ v u ∧ ∀ {p : Pos} {A : Around} {E : Value → Shared → Prop} {Q : Value → Shared → Prop}, Q u s → wpAny C.W.M A (eval (.Name x p) C.env) Q E s := by
  have hd : (x == (PySem.Str.ofString "__debug__")) = false := beq_eq_false_iff_ne.mpr (seq_false hd)
  refine nn fun nG => ?_
  obtain ⟨lk, _, _⟩ := slot_lookup hs
  obtain ⟨mv, J, l⟩ := I
  obtain ⟨u, hu, ru⟩ := l.loc x i v hs hv
  refine nG ?_
  exact ⟨u, ru, fun hq => wpAny_Name (wpAny_loadName_local (m := mv) K.kind (by unfold Env.kindOf; rw [K.names]; exact lk) (by rw [K.loc]; exact J.ns) hu hq) hd⟩

theorem exc_here (K : C.Ok) (I : At C m g ρ σ s) (hs : slot (Str.ofString "Exception") C.ns 0 = some (3, .globalImplicit)) {p : Pos} {Q : Value → Shared → Prop} (h : Q (.type "Exception") s) : wpAny C.W.M A (eval (.Name (Str.ofString "Exception") p) C.env) Q E s := by
  refine nn fun nG => ?_
  obtain ⟨lk, _, _⟩ := slot_lookup hs
  refine nG ?_
  have kn := I.kn
  have hg := kn.top.g
  refine Name_function_global K.kind (by unfold Env.kindOf; rw [K.names]; exact lk) ?_ (by decide +kernel)
  exact loadGlobal_builtin (by rw [K.glob]; exact hg.keeps I.keep) (mg_none_of kn.kin hg (exc_name C.W)) (by rw [K.bui]; exact kn.top.b.keeps I.keep) ((kn.top.builtins _ (by decide +kernel)).trans (by decide +kernel)) h

theorem meth_exc {W : Wd} {pl : Sem Bool} {Q : Value × List Value → Shared → Prop} (X : W.K.In s.heap) (h : Q (.builtin "Exception.__init__", []) { s with toks := s.toks + 1 }) : wpAny W.M A (getMethod (.type "Exception") (Str.ofString "__init__") pl) Q E s := by
  have ht : typeOf (.type "Exception") = pure (.type "type") := by rfl
  have hs : Manifest.isStub "Exception" = false := by decide +kernel
  have hstub : opaqueClassAbove (.type "Exception") = pure none := by unfold opaqueClassAbove; dsimp only; skip; rfl
  have L0 : Looks W.M s.heap (typeOf (.type "Exception")) (.type "type") := Looks.of_pure ht
  have hg : findIn W.K (.type "type") (Str.ofString "__getattribute__") = some (some (.builtin "type.__getattribute__")) := type_tga
  unfold getMethod specialOf
  refine wpAny_bind (wpAny_bind (L0.here ((looks_findIn X hg).here ?_)))
  dsimp only
  skip
  refine wpAny_bind (wpAny_mono (Q := fun v => Q (v, [])) (E := E) ?_ (fun ζ ζ z => wpAny_pure z) fun ζ ζ z => z)
  have LO : Looks W.M s.heap (opaqueClassAbove (.type "Exception")) none := Looks.of_pure hstub
  refine cls_open X LO L0 hg (looks_hook X (r := none) (by rfl)) (by show subIn W.K _ _ = _; rfl) (exc_meth W)
    (wpAny_pure (by show wpAny _ _ (handedOut _) _ _ _; skip; exact wpAny_pure h))
end

section
variable {W : Wd}
theorem fault_ok {ps : List PV} {k : KV} {o : Out} (h : clsO 52 ps k = o) (ho : o ≠ .stuck) {envs : List Env} {A : Around} {g : Heap} {s : Shared} {vs : List Value} {Q E : Value → Shared → Prop} (R : Ready W envs A 2 g s) (ra : Reps g ps vs)
    (hQ : CallPost W envs g s k o Q) : wpAny W.M A (call (.ref 52) vs) Q E s := by
  obtain ⟨w, i, rfl, hw⟩ : ∃ x i, ps = [x, .int i] ∧ k (.cell 0) [.exc] = o := by
    rcases clsO_cases h ho with ⟨_, q⟩ | ⟨e, _⟩ | ⟨e, _⟩ | ⟨e, _⟩
    · exact q
    · exact absurd e (by decide)
    · exact absurd e (by decide)
    · exact absurd e (by decide)
  have h := hw
  have ra' := ra
  simp only [Reps] at ra'
  obtain ⟨v1, _, rfl, r1, v2, _, rfl, r2, rfl⟩ := ra'
  have X := R.kn.kin.keeps R.keep
  obtain ⟨hh, ge, dr, t, os⟩ := s
  have X : W.K.In hh := X
  refine wpAny_call (call52 X (by show 2 ≤ sizeLine; skip; exact chk [] .z 1 (.n 2) (.n 16777216) rfl) fun h' e M => ?_)
  refine nn fun nG => ?_
  obtain ⟨keeps, new, tt, he, tn, te⟩ := M
  have X' : W.K.In h' := X.keeps keeps
  have st0 : Step [] g hh g h' := Step.of_stays keeps
  have ge0 : g.get? e = none := by
    induction q : g.get? e using Option.casesOn with
    | none => rfl
    | some o => have := R.keep _ _ q; rw [show hh.get? e = none from new] at this; cases this
  have R2 : Ready W envs (A.under (.builtin "type.__call__" ⟨[.ref 52, v1, v2], []⟩)) 1 g ⟨h', ge, dr, t, os⟩ := by
    have hd := R.dep
    have hu := R.un
    refine ⟨R.kn, StaysIn.trans R.keep keeps, ?_, R.hand, ffs_step st0 R.ffs, ?_, ?_⟩
    · show pushEnvs [] A.frames = some envs
      exact R.fr
    · show A.depth + 1 + 1 < recursionLimit
      exact chk [_,_] (.h 1 (.a (.a (.v 0) (.n 2)) (.n 1)) (.v 1) .z) 1 (.a (.a (.a (.v 0) (.n 1)) (.n 1)) (.n 1)) (.v 1) rfl hd
    · show A.units + _ + 16 * 1 + 64 < cLine
      have : (Code.builtin "type.__call__" ⟨[.ref 52, v1, v2], []⟩).cUnits ≤ 4 := by
        unfold Code.cUnits; simp [Code.frames, Code.isFrame]
      exact chk [_,_,_] (.h 1 (.a (.a (.a (.v 0) (.m 16 (.n 2))) (.n 64)) (.n 1)) (.v 2) (.h 1 (.v 1) (.n 4) .z)) 1 (.a (.a (.a (.a (.v 0) (.v 1)) (.m 16 (.n 1))) (.n 64)) (.n 1)) (.v 2) rfl hu this
  obtain ⟨fd, F⟩ := ff29 W
  refine nG ?_
  have ra2 : RepsC g [] [.raw (.ref e), w, .int i] [.ref e, v1, v2] := by
    simp only [RepsC]
    exact ⟨_, _, rfl, rfl, _, _, rfl, up_rep r1, _, _, rfl, up_rep r2, rfl⟩
  refine wpAny_call (fn_call F (orc0_ok W) R2 (ρ := []) (σ := []) (ps := [.raw (.ref e), w, .int i]) ra2 rfl (fun p hp => nomatch hp) (by simp) ⟨rfl, fun k p c e => by cases e⟩ fun C s₀ K T eW eO en eG eH em ee eS I sk => ?_)
  subst eW
  refine nn fun nG => ?_
  obtain ⟨p1, p2, p3, p4, p5, p6, q1, q2, q3, q4, t1, t2, t3, t4, hb, hl⟩ := b29
  obtain ⟨sl0, sl1, sl2, sl3⟩ := sl29
  refine nG ?_
  rw [← en] at sl0 sl1 sl2 sl3
  rw [m29] at I
  rw [hb]
  have he0 := sk _ _ he
  have nr : ∀ {o : Obj}, s₀.heap.get? e = some o → NoRec o → False := fun e1 n => by rw [he0] at e1; cases e1; exact n _ rfl
  have Fe : Foreign C g [] e := by
    refine nn fun nG => ?_
    obtain ⟨mv, J, l⟩ := I
    refine nG ?_
    refine ⟨ge0, fun q => ?_, fun p hp => (nomatch hp), ?_, fun o e1 n => ?_⟩
    · obtain ⟨o, e1, n⟩ := noRec_ns J.ns
      rw [← q] at e1
      exact nr e1 n
    · have : ∀ {l : List Env}, s₀.heap.FunFrames g l → ∀ x ∈ l, x.frame ≠ some e := by
        intro l
        induction l with
        | nil => intro _ x hx; cases hx
        | cons y r ih =>
          rintro ⟨hk, ⟨L, o, hf, hn, ho, hd⟩, hr⟩ x hx q
          rcases List.mem_cons.mp hx with rfl | hx
          · rw [hf] at q; cases q; exact nr ho hd
          · exact ih hr x hx q
      exact this J.ffs
    · rw [eH, show (⟨h', ge, dr, t, os⟩ : Shared).heap.get? e = _ from he] at e1
      cases e1
      exact absurd rfl (n _)
  have iac : interactive C.env = false := by unfold interactive; rw [K.kind]; rfl
  refine wpAny_execs_cons (wpAny_Expr_any (method_call rfl hl rfl rfl (exc_here K I sl3 fun pl => meth_exc (I.kn.kin.keeps I.keep) ?_)) iac rfl)
  refine nn fun nG => ?_
  obtain ⟨u0, ru0, ev0⟩ := loc_here (s := { s₀ with toks := s₀.toks + 1 }) K I (by decide +kernel) sl0 rfl
  obtain ⟨u1, ru1, ev1⟩ := loc_here (s := { s₀ with toks := s₀.toks + 1 }) K I (by decide +kernel) sl1 rfl
  refine nG ?_
  cases (show u0 = .ref e from ru0)
  refine call_args rfl (spliced_more (ev0 (spliced_more (ev1 (spliced_none ?_)))))
  refine ⟨⟨I.kn.kin.keeps I.keep, keeps_machine fun a q => by cases q⟩, ?_⟩
  refine exc_init (s := { s₀ with toks := s₀.toks + 1 }) (I.kn.kin.keeps I.keep) he0 rfl fun h₁ tk₁ tp k₁ he₁ => ?_
  have I₁ : At C _ g [] [] { s₀ with heap := h₁, toks := tk₁ } := I.extBut Fe k₁
  refine wpAny_execs_cons (plainObj_wpAny_Assign_Attribute ?_ rfl)
  refine nn fun nG => ?_
  obtain ⟨u2, ru2, ev2⟩ := loc_here K I₁ (by decide +kernel) sl1 rfl
  obtain ⟨u3, ru3, ev3⟩ := loc_here K I₁ (by decide +kernel) sl0 rfl
  refine nG ?_
  cases (show u3 = .ref e from ru3)
  have ok := cls52_ok C.W
  unfold cls52Ok at ok
  simp only [Bool.and_eq_true, beq_iff_eq] at ok
  refine ev2 (ev3 (set_first (I₁.kn.kin.keeps I₁.keep) he₁ ok.1.1.1.2 fun h₂ tk₂ d dn dne k₂ he₂ hn₂ => ?_))
  refine nn fun nG => ?_
  obtain ⟨mn, ns, hn₂, hw₂, hz₂⟩ := hn₂
  refine nG ?_
  have Fd : Foreign C g [] d := Foreign.new I₁ dn
  have I₂ : At C _ g [] [] { s₀ with heap := h₂, toks := tk₂ } := I₁.extBut Fe k₂
  refine wpAny_execs_cons (plainObj_wpAny_Assign_Attribute ?_ rfl)
  refine nn fun nG => ?_
  obtain ⟨u4, ru4, ev4⟩ := loc_here K I₂ (by decide +kernel) sl2 rfl
  obtain ⟨u5, ru5, ev5⟩ := loc_here K I₂ (by decide +kernel) sl0 rfl
  refine nG ?_
  cases (show u5 = .ref e from ru5)
  refine ev4 (ev5 (set_next (I₂.kn.kin.keeps I₂.keep) he₂ ok.1.1.2 hn₂ hw₂ (by exact Nat.le_trans hz₂ (by decide)) dne fun h₃ tk₃ sb => ?_))
  have I₃ : At C _ g [] [] { s₀ with heap := h₃, toks := tk₃ } := I₂.foreign Fd sb
  have he₃ := (sb.2 e (Ne.symm dne)).trans he₂
  refine wpAny_execs_nil ⟨rfl, ?_⟩
  have sm := eS _ I₃.sm
  refine nn fun nG => ?_
  obtain ⟨mv, J, l⟩ := I₃
  refine nG ?_
  have st := J.st
  rw [em, eG, eH] at st
  refine hQ (.cell 0) (.ref e) [.exc] g _ h (st0.trans st fun b hb => nim hb) J.kn J.keep ⟨e, e, rfl, ⟨rfl, _, _, he₃, rfl, rfl, rfl, _, rfl⟩, ge0, Free.none new⟩ ⟨sm.1, sm.2⟩
end
end Mine
end
section
set_option maxRecDepth 100000
namespace Mine
open PySem PySem.W PyProof.Rows PySem.Spec PySem.Calls PySem.SeqAt

theorem b420 : ∃ p2 p3 k3 p4 p5 p6, fBody (stAt 49) = [.Try (tBody (stAt 49)) [.ExceptHandler (some (.Name (Str.ofString "WordFault") p2)) none [.Return (some (.Constant .none k3 p3)) p4] p5] [] [] p6] := ⟨_, _, _, _, _, _, rfl⟩
theorem b427 : ∃ p2 p3 k3 p4 p5 p6 p7 k7 p8, fBody (stAt 50) = [.Try (tBody (stAt 50)) [.ExceptHandler (some (.Name (Str.ofString "WordFault") p2)) none [.Return (some (.Constant (.bool true) k3 p3)) p4] p5] [] [] p6, .Return (some (.Constant (.bool false) k7 p7)) p8] := ⟨_, _, _, _, _, _, _, _, _, rfl⟩
theorem sl420 : slot (Str.ofString "WordFault") (fNames (stAt 49)) 0 = some (2, .globalImplicit) := by kernel_rfl
theorem sl427 : slot (Str.ofString "WordFault") (fNames (stAt 50)) 0 = some (3, .globalImplicit) := by kernel_rfl
theorem exm52 (W : Wd) : exmOne W.K (.ref 52) (.ref 52) = some true := by kernel_rfl
theorem glob52 (n : Nat) : (O n).glob (Str.ofString "WordFault") = some (.raw (.ref 52)) := by cases n <;> kernel_rfl

section
variable {C : Cx} {s : Shared} {E : Value → Shared → Prop} {A : Around}

theorem setFlight_none (x : XStT C e s.heap) {Q : Unit → Shared → Prop} (h : ∀ h', XStT C e h' → Q () { s with heap := h' }) : wpAny C.W.M A (setFlight (.ref e) none) Q E s := by
  refine nn fun nG => ?_
  obtain ⟨g, a0, kn, st, x⟩ := x
  obtain ⟨fl, ht⟩ := x.at
  obtain ⟨c1, c2, c3, c4⟩ := x
  refine nG ?_
  exact wpAny_setFlight_noneW c1 c3 ht fun h' k1 k2 k3 k4 => h h' ⟨g, a0, kn, st.trans0 (step_slots fun b o hb hn => ⟨o.slots, k4 b o hb hn⟩), k1, c2, k2, .inl k3⟩

theorem name52 (K : C.Ok) {n : Nat} (eO : C.O = O n) {i : Nat} (hs : slot (Str.ofString "WordFault") C.ns 0 = some (i, .globalImplicit)) {g : Heap} (kn : Kn C.W g) (keep : g.StaysIn s.heap) {p : Pos} {Q : Value → Shared → Prop} (h : Q (.ref 52) s) : wpAny C.W.M A (eval (.Name (Str.ofString "WordFault") p) C.env) Q E s := by
  refine nn fun nG => ?_
  obtain ⟨lk, _, _⟩ := slot_lookup hs
  refine nG ?_
  have hg := kn.top.g
  refine Name_function_global K.kind (by unfold Env.kindOf; rw [K.names]; exact lk) ?_ (by decide +kernel)
  refine nn fun nG => ?_
  obtain ⟨u, ru, hn⟩ := K.orc.glob _ _ (by rw [eO]; exact glob52 n)
  refine nG ?_
  have := ru g kn
  cases (show u = .ref 52 from this)
  rcases hn with hn | ⟨hn, hb, hne⟩
  · exact loadGlobal_global (by rw [K.glob]; exact hg.keeps keep) (mg_of kn.kin hg hn) h
  · exact loadGlobal_builtin (by rw [K.glob]; exact hg.keeps keep) (mg_none_of kn.kin hg hn) (by rw [K.bui]; exact kn.top.b.keeps keep) ((kn.top.builtins _ hne).trans hb) h

theorem handled_ok (K : C.Ok) {n : Nat} (eO : C.O = O n) {i : Nat} (hs : slot (Str.ofString "WordFault") C.ns 0 = some (i, .globalImplicit)) {e : Addr} (x : XSt C e s.heap) {p2 p3 p4 p5 : Pos} {k3 : Nat} {c : Const} {v : Value} (hc : ∀ {A E s Q}, Q v s → wpAny C.W.M A (eval (.Constant c k3 p3) C.env) Q E s)
    {Q : Flow → Shared → Prop} (hQ : ∀ h' tk, XStT C e h' → Q (.ret v) { s with heap := h', toks := tk }) :
    wpAny C.W.M C.A (noteFrame (.ref e) C.env) (fun ζ s₂ => wpAny C.W.M C.A (setFlight (.ref e) none) (fun ζ s₃ => wpAny C.W.M C.A (handleBy (.ref e) C.env [.ExceptHandler (some (.Name (Str.ofString "WordFault") p2)) none [.Return (some (.Constant c k3 p3)) p4] p5]) Q E s₃) E s₂) E s := by
  refine x_noted K rfl x fun h₁ x₁ => ?_
  refine setFlight_none x₁ fun h₂ x₂ => ?_
  refine wpAny_handleBy_cons ?_ (by intro q; cases q)
  refine nn fun nG => ?_
  obtain ⟨g, a0, kn, st, x₃⟩ := id x₂
  obtain ⟨fl, ht⟩ := x₃.at
  obtain ⟨c1, c2, c3, c4⟩ := x₃
  refine nG ?_
  refine codeAny_handlers_test (name52 K eO hs kn c1 ?_)
  refine nn fun nG => ?_
  obtain ⟨oe, vs, T, oT, ts, he, hcls, hd, h1, _⟩ := ht
  refine nG ?_
  have LT : Looks C.W.M h₂ (typeOf (.ref e)) oe.cls := (Looks.ld he).andThen .now
  rw [hcls.1] at LT
  refine (exm_one (kn.kin.keeps c1) LT (exm52 C.W)).here ?_
  show codeAny _ _ _ _ _
  refine codeAny_handlers_suite (setFlight_none x₂ fun h₃ x₄ => ?_)
  exact wpAny_execs_cons (wpAny_Return_some (hc (hQ h₃ _ x₄)))
end
end Mine
end
section
set_option maxRecDepth 100000
namespace Mine
open PySem PySem.W PyProof.Rows PySem.Spec PySem.Calls PySem.SeqAt

theorem try_some {r : Out} {k : PV → Out} {x o : Out} (h : tryO r k x = o) (ho : o ≠ .stuck) : r ≠ .stuck ∧ (∀ v fr, r = .ok v fr → fr = [] ∧ k v = o) ∧ (r = .exc → x = o) := by
  unfold tryO at h
  split at h
  · exact ⟨(by intro q; cases q), fun v fr q => (by cases q; exact ⟨rfl, h⟩), fun q => by cases q⟩
  · exact ⟨(by intro q; cases q), fun v fr q => (by cases q), fun ζ => h⟩
  · exact absurd h.symm ho

section
variable {W : Wd} {rm : Nat} {n : Nat}
theorem reps_up {g : Heap} {ρ : List (Addr × Addr)} : ∀ {ps : List PV} {vs : List Value}, Reps g ps vs → RepsC g ρ ps vs
  | [], vs, h => by simp only [Reps] at h; simp only [RepsC]; exact h
  | p :: ps, vs, h => by
    simp only [Reps] at h
    obtain ⟨v, r, rfl, h1, h2⟩ := h
    simp only [RepsC]
    exact ⟨v, r, rfl, up_rep h1, reps_up h2⟩

theorem heard_ok (OK : OrcOk W rm (O n)) {ps : List PV} {k : KV} {o : Out} (h : heardO (O n) ps k = o) (ho : o ≠ .stuck) {envs : List Env} {A : Around} {g : Heap} {s : Shared} {vs : List Value} {Q E : Value → Shared → Prop} (R : Ready W envs A (rm + 1) g s) (ra : Reps g ps vs)
    (hQ : CallPost W envs g s k o Q) (hE : CallExc W envs [] g s o E) : wpAny W.M A (call (.ref 420) vs) Q E s := by
  refine nn fun nG => ?_
  obtain ⟨fd, F⟩ := ff420 W
  refine nG ?_
  unfold heardO at h
  refine nn fun nG => ?_
  obtain ⟨hl, h⟩ := br_stuck h ho
  obtain ⟨hr, hok, hex⟩ := try_some h ho
  refine nG ?_
  refine wpAny_call (fn_call F OK R (ρ := []) (σ := []) (reps_up ra) (Nat.eq_of_beq_eq_true hl) (fun p hp => nim hp) (by simp) ⟨rfl, fun k p c e => by cases e⟩ fun C s₀ K T eW eO en eG eH em ee eS I sk => ?_)
  subst eW
  refine nn fun nG => ?_
  obtain ⟨p2, p3, k3, p4, p5, p6, hb⟩ := b420
  refine nG ?_
  rw [hb]
  refine wpAny_execs_cons (wpAny_Try_except ?_)
  refine snd_xs K T FU (tBody (stAt 49)) _ [] _ _ _ _ (by rw [eO, en]) hr g [] s₀ _ _ I ?_ ?_ ?_ ?_
  · intro he e s' sm x
    refine handled_ok K eO (by rw [en]; exact sl420) x (fun hq => wpAny_Constant_none hq) fun h' tk x' => ?_
    refine nn fun nG => ?_
    obtain ⟨g', a0, kn, st, c1, _⟩ := x'
    refine nG ?_
    rw [em, eG, eH] at st
    exact hQ .none .none [] g' _ (hex he) st kn c1 (show Rep g' .none .none from rfl) (eS s' sm)
  · intro m' σ' s' g' ρ' e' I' sg sp
    exact absurd e'.symm hr
  · intro m' σ' s' g' ρ' e' I' sg sp
    exact absurd e'.symm hr
  · intro p v m' σ' s' g' ρ' e' I' r sg sp
    refine frz_ok I' hr e' r (fun j q hp hq => ?_) fun p' fr g₂ hk st kn kp sg' hn rs => ?_
    · obtain ⟨mv, J, l⟩ := I'
      have := J.cH q (List.mem_of_getElem? hq)
      rw [em] at this ⊢
      exact ⟨this, by simp⟩
    · rw [em, eG, eH] at st
      rw [eH] at rs
      refine nn fun nG => ?_
      obtain ⟨rfl, hk'⟩ := hok p' fr hk.symm
      refine nG ?_
      exact hQ p' v [] g₂ s' hk' st kn kp rs (eS _ I'.sm)

theorem refused_ok (OK : OrcOk W rm (O n)) {ps : List PV} {k : KV} {o : Out} (h : refusedO (O n) ps k = o) (ho : o ≠ .stuck) {envs : List Env} {A : Around} {g : Heap} {s : Shared} {vs : List Value} {Q E : Value → Shared → Prop} (R : Ready W envs A (rm + 1) g s) (ra : Reps g ps vs)
    (hQ : CallPost W envs g s k o Q) (hE : CallExc W envs [] g s o E) : wpAny W.M A (call (.ref 427) vs) Q E s := by
  refine nn fun nG => ?_
  obtain ⟨fd, F⟩ := ff427 W
  refine nG ?_
  unfold refusedO at h
  refine nn fun nG => ?_
  obtain ⟨hl, h⟩ := br_stuck h ho
  obtain ⟨hr, hok, hex⟩ := try_some h ho
  refine nG ?_
  refine wpAny_call (fn_call F OK R (ρ := []) (σ := []) (reps_up ra) (Nat.eq_of_beq_eq_true hl) (fun p hp => nim hp) (by simp) ⟨rfl, fun k p c e => by cases e⟩ fun C s₀ K T eW eO en eG eH em ee eS I sk => ?_)
  subst eW
  refine nn fun nG => ?_
  obtain ⟨p2, p3, k3, p4, p5, p6, p7, k7, p8, hb⟩ := b427
  refine nG ?_
  rw [hb]
  refine wpAny_execs_cons (wpAny_Try_except ?_)
  refine snd_xs K T FU (tBody (stAt 50)) _ [] _ _ _ _ (by rw [eO, en]) hr g [] s₀ _ _ I ?_ ?_ ?_ ?_
  · intro he e s' sm x
    refine handled_ok K eO (by rw [en]; exact sl427) x (fun hq => wpAny_Constant_bool hq) fun h' tk x' => ?_
    refine nn fun nG => ?_
    obtain ⟨g', a0, kn, st, c1, _⟩ := x'
    refine nG ?_
    rw [em, eG, eH] at st
    exact hQ (.bool true) (.bool true) [] g' _ (hex he) st kn c1 (show Rep g' (.bool true) _ from rfl) (eS s' sm)
  · intro m' σ' s' g' ρ' e' I' sg sp
    obtain ⟨_, hk'⟩ := hok _ _ e'.symm
    refine wpAny_execs_nil (wpAny_execs_cons (wpAny_Return_some (wpAny_Constant_bool ?_)))
    have sm := eS _ I'.sm
    refine nn fun nG => ?_
    obtain ⟨mv, J, l⟩ := I'
    refine nG ?_
    have st := J.st
    rw [em, eG, eH] at st
    exact hQ (.bool false) (.bool false) [] g' s' hk' st J.kn J.keep (show Rep g' (.bool false) _ from rfl) sm
  · intro m' σ' s' g' ρ' e' I' sg sp
    exact absurd e'.symm hr
  · intro p v m' σ' s' g' ρ' e' I' r sg sp
    exact absurd e'.symm hr

theorem orc_ok (W : Wd) : ∀ n, OrcOk W (2 * n) (O n)
  | 0 => orc0_ok W
  | n + 1 => by
    have OK := orc_ok W n
    refine nn fun nG => ?_
    obtain ⟨s1, s2, s3⟩ := static_ok W
    refine nG ?_
    have x := x52_ok W
    simp only [Bool.and_eq_true, beq_iff_eq] at x
    refine ⟨fun a ps k o h ho envs A g s vs Q E R ra hQ hE => ?_, fun a ps k o h ho => ?_, fun a c ps k o h ho envs A g s x core vs Q E R hc hg hi ra hQ hE => ?_, fun a c ps k o h ho => ?_, s1, s2, ⟨x.1.1, x.1.2⟩, fun x p h => glob_ok W h, s3⟩
    · have h : pfO (O n) a ps k = o := h
      unfold pfO at h
      split at h
      · rename_i st e
        refine nn fun nG => ?_
        obtain ⟨hl, h⟩ := br_stuck h ho
        obtain ⟨fd, F⟩ := pf_facts (W := W) e
        refine nG ?_
        exact fn_pf F OK (Nat.eq_of_beq_eq_true hl) h ho (R.mono (by exact chk [_] .z 1 (.a (.m 2 (.v 0)) (.n 1)) (.m 2 (.a (.v 0) (.n 1))) rfl)) ra hQ hE
      · split at h
        · exact heard_ok OK h ho (R.mono (by exact chk [_] .z 1 (.a (.m 2 (.v 0)) (.n 1)) (.m 2 (.a (.v 0) (.n 1))) rfl)) ra hQ hE
        · exact refused_ok OK h ho (R.mono (by exact chk [_] .z 1 (.a (.m 2 (.v 0)) (.n 1)) (.m 2 (.a (.v 0) (.n 1))) rfl)) ra hQ hE
        · refine nn fun nG => ?_
          obtain ⟨fd, F⟩ := ff384 W
          obtain ⟨hl, h⟩ := br_stuck h ho
          refine nG ?_
          exact fn_pt F OK (Nat.eq_of_beq_eq_true hl) h ho (R.mono (by exact chk [_] .z 1 (.a (.m 2 (.v 0)) (.n 1)) (.m 2 (.a (.v 0) (.n 1))) rfl)) ra hQ hE
        · by_cases h52 : a = 52
          · subst h52
            exact fault_ok h ho (R.mono (by exact chk [_] .z 1 (.n 2) (.m 2 (.a (.v 0) (.n 1))) rfl)) ra hQ
          · exact cls_ok OK h52 h ho (R.mono (by exact chk [_] .z 1 (.a (.m 2 (.v 0)) (.n 2)) (.m 2 (.a (.v 0) (.n 1))) rfl)) ra hQ hE
    · have h : pfO (O n) a ps k = o := h
      unfold pfO at h
      split at h
      · rename_i st e
        obtain ⟨fd, F⟩ := pf_facts (W := W) e
        exact F.keep
      · split at h
        · obtain ⟨fd, F⟩ := ff420 W; exact F.keep
        · obtain ⟨fd, F⟩ := ff427 W; exact F.keep
        · obtain ⟨fd, F⟩ := ff384 W; exact F.keep
        · rcases clsO_cases h ho with ⟨rfl, _⟩ | ⟨rfl, _⟩ | ⟨rfl, _⟩ | ⟨rfl, _⟩
          · exact x.2
          · exact (clsOk_of (cls175 W)).2.2.2
          · exact (clsOk_of (cls201 W)).2.2.2
          · exact (clsOk_of (cls288 W)).2.2.2
    · have h : mfO (O n) a c ps k = o := h
      unfold mfO at h
      split at h
      · rename_i st e
        obtain ⟨hl, h⟩ := br_stuck h ho
        obtain ⟨fd, F⟩ := mf_facts (W := W) e
        exact fn_mf F OK (Nat.eq_of_beq_eq_true hl) h ho (R.mono (by exact chk [_] .z 1 (.a (.m 2 (.v 0)) (.n 1)) (.m 2 (.a (.v 0) (.n 1))) rfl)) hc hg hi ra hQ hE
      · split at h
        · obtain ⟨fd, F⟩ := cf403 W
          simp only [Reps] at ra
          subst ra
          exact fn_mf_c F OK h ho (R.mono (by exact chk [_] .z 1 (.a (.m 2 (.v 0)) (.n 1)) (.m 2 (.a (.v 0) (.n 1))) rfl)) hc hg hi hQ hE
        · exact absurd h.symm ho
    · have h : mfO (O n) a c ps k = o := h
      unfold mfO at h
      split at h
      · rename_i st e
        obtain ⟨fd, F⟩ := mf_facts (W := W) e
        exact F.keep
      · split at h
        · obtain ⟨fd, F⟩ := cf403 W; exact F.keep
        · exact absurd h.symm ho
end
end Mine
end
section
set_option maxRecDepth 100000
namespace Mine
open PySem

noncomputable abbrev PF := Nat → List PV → KV → Out
noncomputable abbrev MF := Nat → Cell → List PV → (PV → Cell → List Cell → Out) → Out
noncomputable def QO (lf : Nat) (pf : PF) (mf : MF) : Orc := ⟨pf, mf, globO, fun c x => lookM c x methT, fun c x => hasF c x fldT, isiO, lf⟩
/- the classes are called at once -/
noncomputable def xF (pf : PF) : PF := fun a ps k => match a with
  | 52 => clsO 52 ps k
  | 175 => clsO 175 ps k
  | 201 => clsO 201 ps k
  | 288 => clsO 288 ps k
  | a => pf a ps k
noncomputable def QX (lf : Nat) (pf : PF) (mf : MF) : Orc := QO lf (xF pf) mf
noncomputable def SXO (lf : Nat) (pf : PF) (mf : MF) : Orc := QO lf (pfO (QX lf pf mf)) (mfO (QX lf pf mf))
theorem O_q : ∀ n, O n = QO LF (O n).pf (O n).mf
  | 0 => rfl
  | n + 1 => rfl
theorem xF_O (n : Nat) : xF (O (n + 1)).pf = (O (n + 1)).pf := by
  funext a ps k
  unfold xF
  split
  · kernel_rfl
  · kernel_rfl
  · kernel_rfl
  · kernel_rfl
  · exact Eq.refl _
theorem O_x (n : Nat) : O (n + 1) = QX LF (O (n + 1)).pf (O (n + 1)).mf := by
  have h : QX LF (O (n + 1)).pf (O (n + 1)).mf = QO LF (O (n + 1)).pf (O (n + 1)).mf := congrArg (fun p => QO LF p (O (n + 1)).mf) (xF_O n)
  rw [h]; exact O_q _
noncomputable def stO (P : Orc) : Orc := QO LF (pfO P) (mfO P)
theorem O_s (n : Nat) : O (n + 2) = SXO LF (O (n + 1)).pf (O (n + 1)).mf := by
  have h : stO (O (n + 1)) = stO (QX LF (O (n + 1)).pf (O (n + 1)).mf) := congrArg stO (O_x n)
  have h2 : O (n + 2) = stO (O (n + 1)) := by kernel_rfl
  rw [h2, h]; kernel_rfl

/- the loop at place i of a function's body -/
noncomputable def whTest (st : Stmt) (i : Nat) : PySem.Expr := match (fBody st)[i]? with
  | some (.While t _ _ _) => t
  | _ => .Constant .none 0 ⟨0, 0, 0, 0⟩
noncomputable def whBody (st : Stmt) (i : Nat) : List Stmt := match (fBody st)[i]? with
  | some (.While _ b _ _) => b
  | some (.For _ _ b _ _) => b
  | _ => []
noncomputable def forT (st : Stmt) (i : Nat) : PySem.Expr := match (fBody st)[i]? with
  | some (.For t _ _ _ _) => t
  | _ => .Constant .none 0 ⟨0, 0, 0, 0⟩
noncomputable def tW (Q : Orc) (st : Stmt) (i : Nat) (m : Loc) (σ : List Cell) (k : KB) : Out := testE Q (fNames st) (59 - i) (whTest st i) m σ k
noncomputable def bW (Q : Orc) (kr : KV) (st : Stmt) (i j : Nat) (m : Loc) (σ : List Cell) (k : KS) : Out := execS Q (fNames st) (59 - i - j) ((whBody st i).drop j) m σ k k kr
noncomputable def bF (Q : Orc) (kr : KV) (st : Stmt) (i : Nat) (x : PV) (m : Loc) (σ : List Cell) (k : KS) : Out :=
  setT (fNames st) (forT st i) x m fun m => execS Q (fNames st) (59 - i) (whBody st i) m σ k k kr
noncomputable def kR (k : KV) : KV := fun v σ => frz v σ k
noncomputable def pW (Q : Orc) (st : Stmt) (j : Nat) (k : KV) (m : Loc) (σ : List Cell) : Out := execS Q (fNames st) (60 - j) ((fBody st).drop j) m σ (fun ζ ζ => k .none []) (fun ζ ζ => .stuck) (kR k)
/- what stands behind a call whose answer is bound -/
noncomputable def asK (Q : Orc) (ns : Names) (n : Nat) (ss : List Stmt) (m : Loc) (σ : List Cell) (kn kc : KS) (kr : KV) : KV := fun v fr => retK σ v fr fun v σ => match ss with
  | .Assign [t] _ _ :: rest => setT ns t v m fun m => execS Q ns n rest m σ kn kc kr
  | _ => .stuck
noncomputable def bA (Q : Orc) (kr : KV) (st : Stmt) (i j : Nat) (m : Loc) (σ : List Cell) (k : KS) : KV := asK Q (fNames st) (58 - i - j) ((whBody st i).drop j) m σ k k kr
noncomputable def pA (Q : Orc) (st : Stmt) (j : Nat) (k : KV) (m : Loc) (σ : List Cell) : KV := asK Q (fNames st) (59 - j) ((fBody st).drop j) m σ (fun ζ ζ => k .none []) (fun ζ ζ => .stuck) (kR k)
noncomputable def bK (σ : List Cell) (f : KB) : KV := fun v fr => retK σ v fr fun v σ => match v with
  | .bool c => f c σ
  | _ => .stuck
noncomputable def ifBody (st : Stmt) (i : Nat) : List Stmt := match (fBody st)[i]? with
  | some (.If _ b _ _) => b
  | _ => []
noncomputable def ifElse (st : Stmt) (i : Nat) : List Stmt := match (fBody st)[i]? with
  | some (.If _ _ b _) => b
  | _ => []
noncomputable def iA (Q : Orc) (st : Stmt) (i j : Nat) (k : KV) (m : Loc) (σ : List Cell) : KV := asK Q (fNames st) (58 - i - j) ((ifBody st i).drop j) m σ (pW Q st (i + 1) k) (fun ζ ζ => .stuck) (kR k)
end Mine
end
section
set_option maxRecDepth 100000
namespace Mine
open PySem

/- plain lists for the evaluator's values -/
noncomputable def bB (l : List UInt8) : PV := .bytes l.toArray
noncomputable def po {α : Type} (l r : List α) : Int := (l.length : Int) - r.length
noncomputable def szB : Nat := 10000
noncomputable def never (c : UInt8) : Bool := c == 0 || c == 10 || c == 13
noncomputable def okL (l : List UInt8) : Prop := ∀ c ∈ l, never c = false

theorem okL.suf {l r : List UInt8} (h : okL l) (s : r <:+ l) : okL r := fun c hc => h c (s.mem hc)
theorem suf_tail {α : Type} {l r : List α} {c : α} (s : c :: r <:+ l) : r <:+ l := (List.suffix_cons c r).trans s
theorem po_tail {α : Type} (l r : List α) (c : α) : po l (c :: r) + 1 = po l r := by
  unfold po; rw [List.length_cons]; omega
theorem po_tail2 {α : Type} (l r : List α) (c e : α) : po l (c :: e :: r) + 2 = po l r := by
  unfold po; rw [List.length_cons, List.length_cons]; omega
theorem po_self {α : Type} (l : List α) : po l l = 0 := by unfold po; omega
theorem cl_nat (n i : Nat) : cl n (i : Int) = min i n := by
  unfold cl
  rw [if_neg (by omega)]
  simp
theorem lslice_at {α : Type} {l r : List α} (h : r <:+ l) (j : Nat) : lSlice l (some (po l r)) (some (po l r + j)) = r.take j := by
  obtain ⟨pre, rfl⟩ := h
  have e0 : po (pre ++ r) r = (pre.length : Int) := by unfold po; simp
  have e : (pre.length : Int) + j = ((pre.length + j : Nat) : Int) := by simp
  unfold lSlice
  rw [e0]
  simp only [Option.elim_some]
  rw [e, cl_nat, cl_nat]
  simp only [List.length_append]
  rw [Nat.min_eq_left (Nat.le_add_right pre.length r.length), List.drop_left]
  by_cases h1 : j ≤ r.length
  · rw [Nat.min_eq_left (by exact chk [_,_,_] (.h 1 (.v 1) (.v 2) .z) 1 (.a (.v 0) (.v 1)) (.a (.v 0) (.v 2)) rfl h1), Nat.add_sub_cancel_left]
  · rw [Nat.min_eq_right (by exact chk [_,_,_] (.h 1 (.a (.v 1) (.n 1)) (.v 2) .z) 1 (.a (.v 0) (.v 1)) (.a (.v 0) (.v 2)) rfl (Nat.lt_of_not_le h1)), Nat.add_sub_cancel_left, List.take_length, List.take_of_length_le (by exact chk [_,_] (.h 1 (.a (.v 0) (.n 1)) (.v 1) .z) 1 (.v 0) (.v 1) rfl (Nat.lt_of_not_le h1))]
theorem sl_at {l r : List UInt8} (h : r <:+ l) (j : Nat) : bSlice l.toArray (some (po l r)) (some (po l r + j)) = (r.take j).toArray := by
  unfold bSlice
  rw [lslice_at h j]
theorem sl_at1 {l r : List UInt8} (h : r <:+ l) : bSlice l.toArray (some (po l r)) (some (po l r + 1)) = (r.take 1).toArray := sl_at h 1
theorem sl_at2 {l r : List UInt8} (h : r <:+ l) : bSlice l.toArray (some (po l r)) (some (po l r + 2)) = (r.take 2).toArray := sl_at h 2
theorem sl_tl {l r : List UInt8} {c : UInt8} (h : c :: r <:+ l) : bSlice l.toArray (some (po l (c :: r))) (some (po l r)) = #[c] := by
  rw [← po_tail l r c, sl_at1 h]; rfl
theorem po_pos {α : Type} {l r : List α} (h : r <:+ l) : 0 ≤ po l r := by
  have := h.length_le
  unfold po; omega
theorem po_nat {α : Type} {l r : List α} (h : r <:+ l) : (po l r).toNat = l.length - r.length := by
  have := h.length_le
  unfold po; omega
theorem get_at {α : Type} {l r : List α} {c : α} (h : c :: r <:+ l) : l[(po l (c :: r)).toNat]? = some c := by
  rw [po_nat h]
  obtain ⟨pre, rfl⟩ := h
  simp
theorem ix_at {l r : List UInt8} {c : UInt8} (h : c :: r <:+ l) : bIdx l.toArray (po l (c :: r)) = some (c.toNat : Int) := by
  have hp := po_pos h
  have hs : l.toArray.size = l.length := by simp
  have hl := h.length_le
  unfold bIdx
  rw [if_pos ⟨hp, by rw [hs]; unfold po; simp only [List.length_cons]; omega⟩]
  have : l.toArray[(po l (c :: r)).toNat]? = some c := by
    rw [List.getElem?_toArray]; exact get_at h
  rw [this]; rfl
set_option tactic.hygienic true in
theorem lix_at {α : Type} {l r : List α} {c : α} (h : c :: r <:+ l) : lIdx l (po l (c :: r)) = some c := by
  have hp := po_pos h
  have := get_at h
  unfold lIdx
  split
  · rename_i n e
    rw [e] at this
    exact this
  · rename_i n e
    rw [e] at hp
    omega
theorem lt_at {α : Type} {l r : List α} (h : r <:+ l) : decide (po l r < (l.length : Int)) = !r.isEmpty := by
  induction r using List.casesOn with
  | nil => unfold po; simp
  | cons c r => unfold po; simp only [List.length_cons, List.isEmpty_cons, Bool.not_false, decide_eq_true_eq]; omega
theorem ge_at {α : Type} {l r : List α} (h : r <:+ l) : decide ((l.length : Int) ≤ po l r) = r.isEmpty := by
  induction r using List.casesOn with
  | nil => unfold po; simp
  | cons c r => unfold po; simp only [List.length_cons, List.isEmpty_cons, decide_eq_false_iff_not]; omega
theorem toA_inj {α : Type} [DecidableEq α] (a b : List α) : decide (a.toArray = b.toArray) = decide (a = b) := by
  by_cases h : a = b
  · subst h; simp
  · rw [decide_eq_false h, decide_eq_false]
    intro q
    exact h (by simpa using q)
theorem u8_nat (c : UInt8) (n : Nat) (hn : n < 256) : decide ((c.toNat : Int) = (n : Int)) = decide (c = UInt8.ofNat n) := by
  by_cases h : c = UInt8.ofNat n
  · subst h
    simp [Nat.mod_eq_of_lt hn]
  · rw [decide_eq_false h, decide_eq_false]
    intro q
    apply h
    have : c.toNat = n := by omega
    rw [← this]; simp
theorem in_bytes (c : UInt8) (e : List UInt8) : pvIn (.int (c.toNat : Int)) (.bytes e.toArray) = some (e.contains c) := by
  have h1 : (0 : Int) ≤ c.toNat ∧ (c.toNat : Int) < 256 := ⟨by omega, by have := c.toNat_lt; omega⟩
  unfold pvIn
  simp only [decide_eq_true h1]
  congr 1
  show (e.any fun q => decide ((q.toNat : Int) = (c.toNat : Int))) = _
  induction e with
  | nil => rfl
  | cons x e ih =>
    rw [List.any_cons]
    congr 1
    by_cases h : c = x
    · subst h; simp
    · have : ¬ (x.toNat : Int) = c.toNat := fun q => h (UInt8.toNat_inj.mp (by omega)).symm
      rw [decide_eq_false this]
      simp [h]
theorem never_any (c : UInt8) : anyInt (c.toNat : Int) [0, 10, 13] = never c := by
  have : ∀ n : Fin 256, anyInt ((UInt8.ofNat n.val).toNat : Int) [0, 10, 13] = never (UInt8.ofNat n.val) := by decide +kernel
  have := this ⟨c.toNat, c.toNat_lt⟩
  simpa using this
theorem bytesOf_map : ∀ (l : List (List UInt8)), bytesOf (l.map bB) = some (l.map List.toArray)
  | [] => rfl
  | x :: l => by
    show (match bytesOf (l.map bB) with
    | some q => some (x.toArray :: q)
    | .none => .none) = _
    rw [bytesOf_map l]; rfl
theorem bJoin_nil : ∀ (l : List (List UInt8)), bJoin [] (l.map List.toArray) = l.flatten
  | [] => rfl
  | [x] => by show x.toArray.toList = _; simp
  | x :: y :: l => by
    show x.toArray.toList ++ [] ++ bJoin [] ((y :: l).map List.toArray) = _
    rw [bJoin_nil (y :: l)]; simp
theorem sizes_map (l : List (List UInt8)) : (l.map List.toArray).map (·.size) = l.map List.length := by
  rw [List.map_map]; congr 1
theorem jFit_ok (s : Nat) (l : List Nat) (h : l.sum + l.length * s ≤ LIM) : jFit s l = true := decide_eq_true h
theorem sum_flatten (l : List (List UInt8)) : (l.map List.length).sum = l.flatten.length := by
  rw [List.length_flatten]
theorem lim_big : szB * 100 ≤ LIM := by decide
variable {α : Type}
theorem br_t {a b : Out} : br true a b = a := rfl
theorem br_f {a b : Out} : br false a b = b := rfl
theorem br_not {c : Bool} {a b : Out} : br (!c) a b = br c b a := by cases c <;> rfl
theorem opt_s {x : α} {k : α → Out} : opt (some x) k = k x := rfl
theorem opt_n {k : α → Out} : opt (.none : Option α) k = .stuck := rfl
theorem br_same {c : Bool} {a : Out} : br c a a = a := by cases c <;> rfl

/- 69 and 76 on octets without 0, 10, 13 -/
variable {lf : Nat} {pf : PF} {mf : MF}
noncomputable def S76 (pf : PF) : Prop := ∀ (l r : List UInt8) (b : Int) (κ : KV), okL l → r <:+ l → pf 76 [bB l, .int (po l r), .int b] κ =
  match r with
  | [] => .exc
  | c :: r => if c = 92 then (match r with
    | [] => .exc
    | e :: r' => κ (.tup [bB [e], .int (po l r')]) []) else κ (.tup [bB [c], .int (po l r)]) []
noncomputable def S69 (pf : PF) : Prop := ∀ (l r : List UInt8) (κ : KV), okL l → r <:+ l → pf 69 [bB l, .int (po l r)] κ = κ (.int (-1)) []
theorem eq69 (d : Array UInt8) (a : Int) (k : KV) : (SXO lf pf mf).pf 69 [.bytes d, .int a] k =
  br (decide (bSlice d (some a) (some (a + 1)) = #[10])) (k (.int (a + 1)) []) (br (decide (bSlice d (some a) (some (a + 2)) = #[13, 10])) (k (.int (a + 2)) []) (k (.int (-1)) [])) := by kernel_rfl
theorem never10 {r : List UInt8} (h : okL r) : decide (r.take 1 = [10]) = false := by
  refine decide_eq_false fun q => ?_
  induction r using List.casesOn with
  | nil => cases q
  | cons c r =>
    cases q
    exact absurd (h 10 (.head _)) (by decide)
theorem never13 {r : List UInt8} (h : okL r) : decide (r.take 2 = [13, 10]) = false := by
  refine decide_eq_false fun q => ?_
  match r, h with
  | [], h => cases q
  | [c], h => cases q
  | c :: e :: r, h =>
    cases q
    exact absurd (h 13 (.head _)) (by decide)
theorem s69 : S69 (SXO lf pf mf).pf := fun l r κ ok s => by
  unfold bB
  have h1 : decide (bSlice l.toArray (some (po l r)) (some (po l r + 1)) = #[10]) = false := by
    rw [sl_at1 s]; exact (toA_inj _ [10]).trans (never10 (ok.suf s))
  have h2 : decide (bSlice l.toArray (some (po l r)) (some (po l r + 2)) = #[13, 10]) = false := by
    rw [sl_at2 s]; exact (toA_inj _ [13, 10]).trans (never13 (ok.suf s))
  rw [eq69, h1, h2]; rfl
theorem eq76 (d : Array UInt8) (a b : Int) (k : KV) : (SXO lf pf mf).pf 76 [.bytes d, .int a, .int b] k =
  (let fin := fun e : Int => br (decide (0 ≤ e)) (k (.tup [.bytes #[], .int e]) []) (opt (bIdx d a) fun w => br (anyInt w [0, 10, 13]) .exc (k (.tup [.bytes (bSlice d (some a) (some (a + 1))), .int (a + 1)]) []))
   let body := opt (bIdx d a) fun v => br (decide (v = 92)) (opt (bIdx d (a + 1)) fun w => br (anyInt w [0, 10, 13]) .exc (k (.tup [.bytes (bSlice d (some (a + 1)) (some (a + 2))), .int (a + 2)]) []))
     (pf 69 [.bytes d, .int a] (pA (QX lf pf mf) (stAt 10) 2 k [some (.bytes d), some (.int a), some (.int b), none, none, none, none, none] []))
   br (decide ((d.size : Int) ≤ a)) .exc (opt (bIdx d a) fun v => br (decide (v = 92)) (br (decide (a + 1 = (d.size : Int))) .exc body) body)) := by kernel_rfl
theorem eq76b (d : Array UInt8) (a b e : Int) (k : KV) : pA (QX lf pf mf) (stAt 10) 2 k [some (.bytes d), some (.int a), some (.int b), none, none, none, none, none] [] (.int e) [] =
  br (decide (0 ≤ e)) (k (.tup [.bytes #[], .int e]) []) (opt (bIdx d a) fun w => br (anyInt w [0, 10, 13]) .exc (k (.tup [.bytes (bSlice d (some a) (some (a + 1))), .int (a + 1)]) [])) := by kernel_rfl
theorem s76 (h69 : S69 pf) : S76 (SXO lf pf mf).pf := fun l r b κ ok s => by
  have h69' : ∀ κ, pf 69 [.bytes l.toArray, .int (po l r)] κ = κ (.int (-1)) [] := fun κ => h69 l r κ ok s
  unfold bB
  rw [eq76]
  simp only [h69', eq76b]
  have hz : ((l.toArray.size : Int)) = l.length := by simp
  rw [hz, ge_at s]
  induction r using List.casesOn with
  | nil => rfl
  | cons c r =>
    have n0 := never_any c
    rw [ok c (s.mem (.head _))] at n0
    simp only [List.isEmpty_cons, br_f, ix_at s, opt_s, n0, sl_at1 s]
    rw [show (92 : Int) = ((92 : Nat) : Int) from rfl, u8_nat c 92 (by decide)]
    by_cases q : c = 92
    · subst q
      simp only [if_true, show decide ((92 : UInt8) = UInt8.ofNat 92) = true from rfl, br_t]
      have s' := suf_tail s
      rw [po_tail]
      induction r using List.casesOn with
      | nil =>
        have : decide (po l ([] : List UInt8) = (l.length : Int)) = true := by unfold po; simp
        rw [this]; rfl
      | cons e r =>
        have n1 := never_any e
        rw [ok e (s'.mem (.head _))] at n1
        have hn : decide (po l (e :: r) = (l.length : Int)) = false := by
          have := s'.length_le
          refine decide_eq_false ?_
          unfold po; simp only [List.length_cons]; omega
        have e2 : po l ((92 : UInt8) :: e :: r) + 2 = po l (e :: r) + 1 := by rw [po_tail2, po_tail]
        simp only [hn, br_f, ix_at s', opt_s, n1, e2, po_tail, sl_tl s']
    · have q' : decide (c = UInt8.ofNat 92) = false := decide_eq_false q
      simp only [q', br_f, if_neg q, show decide ((0 : Int) ≤ -1) = false from rfl, po_tail]
      rfl
end Mine
end
section
set_option maxRecDepth 100000
namespace Mine
open PySem
variable {lf : Nat} {pf : PF} {mf : MF}

/- 83 closed_at -/
noncomputable def closedP (c : UInt8) (e : List UInt8) : List UInt8 → Option (List UInt8 × List UInt8)
  | [] => none
  | x :: r => if x = c then some ([], r) else if e.contains x then none else
    if x = 92 then (match r with
      | [] => none
      | y :: r => (closedP c e r).map fun p => (y :: p.1, p.2))
    else (closedP c e r).map fun p => (x :: p.1, p.2)
theorem eq83 (d : Array UInt8) (b : Int) (c e : Array UInt8) (k : KV) : (SXO lf pf mf).pf 83 [.bytes d, .int b, .bytes c, .bytes e] k =
  whileL lf (tW (QX lf pf mf) (stAt 11) 2) (bW (QX lf pf mf) (kR k) (stAt 11) 2 0) [some (.bytes d), some (.int b), some (.bytes c), some (.bytes e), some (.cell 0), some (.int (b + 1)), none, none, none, none] [.list []] (pW (QX lf pf mf) (stAt 11) 3 k) := by kernel_rfl
theorem t83 (d : Array UInt8) (b a : Int) (c e : Array UInt8) (x : Option PV) (l : List PV) (k : KB) :
  tW (QX lf pf mf) (stAt 11) 2 [some (.bytes d), some (.int b), some (.bytes c), some (.bytes e), some (.cell 0), some (.int a), x, none, none, none] [.list l] k = k (!(decide (bSlice d (some a) (some (a + 1)) = c))) [.list l] := by kernel_rfl
theorem b83 (d : Array UInt8) (b a : Int) (c e : Array UInt8) (x : Option PV) (l : List PV) (kr : KV) (k : KS) :
  bW (QX lf pf mf) kr (stAt 11) 2 0 [some (.bytes d), some (.int b), some (.bytes c), some (.bytes e), some (.cell 0), some (.int a), x, none, none, none] [.list l] k =
   (let r := pf 76 [.bytes d, .int a, .int b] (bA (QX lf pf mf) kr (stAt 11) 2 1 [some (.bytes d), some (.int b), some (.bytes c), some (.bytes e), some (.cell 0), some (.int a), x, none, none, none] [.list l] k)
   br (decide (a < d.size)) (opt (bIdx d a) fun v => opt (pvIn (.int v) (.bytes e)) fun q => br q .exc r) r) := by kernel_rfl
theorem d83 (d : Array UInt8) (b a : Int) (c e : Array UInt8) (x : Option PV) (l : List PV) (kr : KV) (k : KS) (w : Array UInt8) (i : Int) :
  (bA (QX lf pf mf) kr (stAt 11) 2 1 [some (.bytes d), some (.int b), some (.bytes c), some (.bytes e), some (.cell 0), some (.int a), x, none, none, none] [.list l] k (.tup [.bytes w, .int i]) [] = 
   br (decide (l.length < LIM)) (k [some (.bytes d), some (.int b), some (.bytes c), some (.bytes e), some (.cell 0), some (.int i), some (.bytes w), none, none, none] [.list (l ++ [.bytes w])]) .stuck) := by kernel_rfl
theorem p83 (d : Array UInt8) (b a : Int) (c e : Array UInt8) (x : Option PV) (l : List PV) (k : KV) :
  pW (QX lf pf mf) (stAt 11) 3 k [some (.bytes d), some (.int b), some (.bytes c), some (.bytes e), some (.cell 0), some (.int a), x, none, none, none] [.list l] =
   opt (bytesOf l) fun bs => br (jFit 0 (bs.map (·.size))) (k (.tup [.bytes (bJoin [] bs).toArray, .int (a + 1)]) []) .stuck := by kernel_rfl

theorem joined {acc : List (List UInt8)} (h : acc.flatten.length ≤ szB) (k : List UInt8 → Out) : (opt (bytesOf (acc.map bB)) fun bs => br (jFit 0 (bs.map (·.size))) (k (bJoin [] bs)) .stuck) = k acc.flatten := by
  rw [bytesOf_map, opt_s, bJoin_nil, sizes_map, jFit_ok, br_t]
  rw [sum_flatten]
  have := lim_big
  exact chk [_,_,_] (.h 1 (.v 0) (.v 2) (.h 1 (.r (.v 2) 100) (.v 1) .z)) 1 (.a (.v 0) (.n 0)) (.v 1) rfl h this
theorem flat1 (acc : List (List UInt8)) (w : List UInt8) : (acc ++ [w]).flatten.length = acc.flatten.length + w.length := by simp
theorem lt_lim {α β : Type} {acc : List α} {f : α → β} (h : acc.length ≤ szB) : decide ((acc.map f).length < LIM) = true := by
  have := lim_big
  unfold szB at *
  refine decide_eq_true ?_
  rw [List.length_map]
  exact chk [_,_] (.h 1 (.v 0) (.n 10000) (.h 1 (.m 10000 (.n 100)) (.v 1) .z)) 1 (.a (.v 0) (.n 1)) (.v 1) rfl h this
noncomputable def S83 (pf : PF) : Prop := ∀ (l r : List UInt8) (b : Int) (c : UInt8) (e : List UInt8) (κ : KV), okL l → l.length ≤ szB → r <:+ l → b + 1 = po l r → pf 83 [bB l, .int b, bB [c], bB e] κ =
  match closedP c e r with
  | none => .exc
  | some (w, r') => κ (.tup [bB w, .int (po l r')]) []
theorem lp83 (h76 : S76 pf) {l : List UInt8} (ok : okL l) (hl : l.length ≤ szB) (b : Int) (c : UInt8) (e : List UInt8) (k : KV) : ∀ (n : Nat) (r : List UInt8) (acc : List (List UInt8)) (x : Option PV), r <:+ l → r.length < n → acc.length + r.length ≤ szB → acc.flatten.length + r.length ≤ szB →
    whileL n (tW (QX lf pf mf) (stAt 11) 2) (bW (QX lf pf mf) (kR k) (stAt 11) 2 0) [some (.bytes l.toArray), some (.int b), some (.bytes [c].toArray), some (.bytes e.toArray), some (.cell 0), some (.int (po l r)), x, none, none, none] [.list (acc.map bB)] (pW (QX lf pf mf) (stAt 11) 3 k) =
    match closedP c e r with
    | none => .exc
    | some (w, r') => k (.tup [bB (acc.flatten ++ w), .int (po l r')]) []
  | 0, r, acc, x, s, hn, _, _ => absurd hn (Nat.not_lt_zero _)
  | n + 1, r, acc, x, s, hn, ha, hf => by
    have h76' : ∀ κ, pf 76 [.bytes l.toArray, .int (po l r), .int b] κ = _ := fun κ => h76 l r b κ ok s
    rw [whileL, t83, sl_at1 s]
    rw [toA_inj, br_not]
    have hz : ((l.toArray.size : Int)) = l.length := by simp
    induction r using List.casesOn with
    | nil =>
      rw [b83]
      dsimp only
      rw [hz, lt_at s, h76']
      rfl
    | cons y r =>
      have s1 := suf_tail s
      simp only [List.length_cons] at hn ha hf
      by_cases q : y = c
      · subst q
        rw [show decide (List.take 1 (y :: r) = [y]) = true by simp, p83]
        rw [joined (by exact chk [_,_,_] (.h 1 (.a (.v 0) (.a (.v 2) (.n 1))) (.v 1) .z) 1 (.v 0) (.v 1) rfl hf) (fun w => k (.tup [.bytes w.toArray, .int (po l (y :: r) + 1)]) [])]
        unfold closedP
        rw [if_pos rfl, po_tail]
        show _ = k (.tup [bB (acc.flatten ++ []), .int (po l r)]) []
        rw [List.append_nil]; rfl
      · rw [show decide (List.take 1 (y :: r) = [c]) = false by simpa using q, br_f, b83]
        dsimp only
        rw [hz, lt_at s, ix_at s, opt_s, in_bytes, opt_s]
        simp only [List.isEmpty_cons, Bool.not_false, br_t]
        unfold closedP
        rw [if_neg q]
        induction hc : e.contains y using Bool.casesOn with
        | true => rfl
        | false =>
          rw [br_f, h76']
          simp only [Bool.false_eq_true, if_false]
          by_cases q2 : y = 92
          · simp only [if_pos q2]
            induction r using List.casesOn with
            | nil => rfl
            | cons z r =>
              simp only [List.length_cons] at hn ha hf
              dsimp only
              show bA _ _ _ _ _ _ _ _ (.tup [.bytes [z].toArray, _]) [] = _
              rw [d83, lt_lim (by exact chk [_,_,_] (.h 1 (.a (.v 0) (.a (.a (.v 2) (.n 1)) (.n 1))) (.v 1) .z) 1 (.v 0) (.v 1) rfl ha)]
              have := lp83 h76 ok hl b c e k n r (acc ++ [[z]]) (some (bB [z])) (suf_tail s1) (by exact Nat.le_of_lt (Nat.lt_of_succ_lt_succ hn)) (by simp; exact chk [_,_,_] (.h 1 (.a (.v 0) (.a (.a (.v 1) (.n 1)) (.n 1))) (.v 2) .z) 1 (.a (.a (.v 0) (.n 1)) (.v 1)) (.v 2) rfl ha) (by rw [flat1]; simp only [List.length_singleton]; exact chk [_,_,_] (.h 1 (.a (.v 0) (.a (.a (.v 1) (.n 1)) (.n 1))) (.v 2) .z) 1 (.a (.a (.v 0) (.n 1)) (.v 1)) (.v 2) rfl hf)
              rw [List.map_append] at this
              refine Eq.trans this ?_
              induction closedP c e r using Option.casesOn with
              | none => rfl
              | some p => simp
          · simp only [if_neg q2]
            show bA _ _ _ _ _ _ _ _ (.tup [.bytes [y].toArray, _]) [] = _
            rw [d83, lt_lim (by exact chk [_,_,_] (.h 1 (.a (.v 0) (.a (.v 2) (.n 1))) (.v 1) .z) 1 (.v 0) (.v 1) rfl ha)]
            have := lp83 h76 ok hl b c e k n r (acc ++ [[y]]) (some (bB [y])) s1 (by exact Nat.le_of_lt_succ hn) (by simp; exact chk [_,_,_] (.h 1 (.a (.v 0) (.a (.v 1) (.n 1))) (.v 2) .z) 1 (.a (.a (.v 0) (.n 1)) (.v 1)) (.v 2) rfl ha) (by rw [flat1]; simp only [List.length_singleton]; exact chk [_,_,_] (.h 1 (.a (.v 0) (.a (.v 1) (.n 1))) (.v 2) .z) 1 (.a (.a (.v 0) (.n 1)) (.v 1)) (.v 2) rfl hf)
            rw [List.map_append] at this
            refine Eq.trans this ?_
            induction closedP c e r using Option.casesOn with
            | none => rfl
            | some p => simp
theorem s83 (hlf : szB < lf) (h76 : S76 pf) : S83 (SXO lf pf mf).pf := fun l r b c e κ ok hl s hb => by
  unfold bB
  rw [eq83, hb]
  have := s.length_le
  have := lp83 (lf := lf) (mf := mf) h76 ok hl b c e κ lf r [] none s (by exact Nat.lt_of_le_of_lt (Nat.le_trans this hl) hlf) (by simp; exact Nat.le_trans this hl) (by simp; exact Nat.le_trans this hl)
  exact this
end Mine
end
section
set_option maxRecDepth 100000
namespace Mine
open PySem
variable {lf : Nat} {pf : PF} {mf : MF}

/- 90 comment_at -/
noncomputable def commentP : List UInt8 → Nat → Option (List (List UInt8) × List UInt8)
  | r, 0 => some ([], r)
  | [], _ + 1 => none
  | x :: r, d + 1 => if x = 40 then (if 20 < d + 2 then none else (commentP r (d + 2)).map fun p => ([x] :: p.1, p.2)) else
    if x = 41 then (commentP r d).map fun p => ([x] :: p.1, p.2) else
    if x = 92 then (match r with
      | [] => none
      | y :: r => (commentP r (d + 1)).map fun p => ([y] :: p.1, p.2))
    else (commentP r (d + 1)).map fun p => ([x] :: p.1, p.2)
theorem commentP_zero (r : List UInt8) : commentP r 0 = some ([], r) := by induction r using List.casesOn <;> rfl
noncomputable abbrev m90 (d : Array UInt8) (b dep a : Int) (sg oc : Option PV) : Loc := [some (.bytes d), some (.int b), some (.cell 0), some (.int dep), some (.int a), sg, oc, none, none, none]
theorem eq90 (d : Array UInt8) (b : Int) (k : KV) : (SXO lf pf mf).pf 90 [.bytes d, .int b] k =
  whileL lf (tW (QX lf pf mf) (stAt 12) 3) (bW (QX lf pf mf) (kR k) (stAt 12) 3 0) (m90 d b 1 (b + 1) none none) [.list []] (pW (QX lf pf mf) (stAt 12) 4 k) := by kernel_rfl
theorem t90 (d : Array UInt8) (b dep a : Int) (sg oc : Option PV) (l : List PV) (k : KB) :
  tW (QX lf pf mf) (stAt 12) 3 (m90 d b dep a sg oc) [.list l] k = k (decide (0 < dep)) [.list l] := by kernel_rfl
theorem b90 (d : Array UInt8) (b dep a : Int) (sg oc : Option PV) (l : List PV) (kr : KV) (k : KS) :
  bW (QX lf pf mf) kr (stAt 12) 3 0 (m90 d b dep a sg oc) [.list l] k =
   (let s := bSlice d (some a) (some (a + 1))
    let r := fun dep => pf 76 [.bytes d, .int a, .int b] (bA (QX lf pf mf) kr (stAt 12) 3 2 (m90 d b dep a (some (.bytes s)) oc) [.list l] k)
    br (decide (s = #[40])) (br (decide (20 < dep + 1)) .exc (r (dep + 1))) (br (decide (s = #[41])) (r (dep - 1)) (r dep))) := by kernel_rfl
theorem d90 (d : Array UInt8) (b dep a : Int) (sg oc : Option PV) (l : List PV) (kr : KV) (k : KS) (w : Array UInt8) (i : Int) :
  (bA (QX lf pf mf) kr (stAt 12) 3 2 (m90 d b dep a sg oc) [.list l] k (.tup [.bytes w, .int i]) [] = 
   br (decide (l.length < LIM)) (k (m90 d b dep i sg (some (.bytes w))) [.list (l ++ [.bytes w])]) .stuck) := by kernel_rfl
theorem p90 (d : Array UInt8) (b dep a : Int) (sg oc : Option PV) (l : List PV) (k : KV) :
  pW (QX lf pf mf) (stAt 12) 4 k (m90 d b dep a sg oc) [.list l] =
   opt (bytesOf (lSlice l none (some (-1)))) fun bs => br (jFit 0 (bs.map (·.size))) (k (.tup [.bytes (bJoin [] bs).toArray, .int a]) []) .stuck := by kernel_rfl
theorem slice_m1 {α : Type} (l : List α) : lSlice l none (some (-1)) = l.dropLast := by
  unfold lSlice
  dsimp only [Option.elim, List.drop_zero, cl]
  rw [if_pos (by decide), List.dropLast_eq_take]
  congr 1
  omega
noncomputable def S90 (pf : PF) : Prop := ∀ (l r : List UInt8) (b : Int) (κ : KV), okL l → l.length ≤ szB → r <:+ l → b + 1 = po l r → pf 90 [bB l, .int b] κ =
  match commentP r 1 with
  | none => .exc
  | some (w, r') => κ (.tup [bB w.dropLast.flatten, .int (po l r')]) []
theorem flat_dl (acc : List (List UInt8)) : acc.dropLast.flatten.length ≤ acc.flatten.length := by
  induction acc with
  | nil => simp
  | cons x l ih =>
    induction l using List.casesOn with
    | nil => simp
    | cons y l =>
      simp only [List.dropLast_cons_cons, List.flatten_cons, List.length_append] at ih ⊢
      exact chk [_,_,_,_] (.h 1 (.v 1) (.a (.v 2) (.v 3)) .z) 1 (.a (.v 0) (.v 1)) (.a (.v 0) (.a (.v 2) (.v 3))) rfl ih
theorem lp90 (h76 : S76 pf) {l : List UInt8} (ok : okL l) (hl : l.length ≤ szB) (b : Int) (k : KV) : ∀ (n : Nat) (r : List UInt8) (dep : Nat) (acc : List (List UInt8)) (sg oc : Option PV), r <:+ l → r.length < n → acc.length + r.length ≤ szB → acc.flatten.length + r.length ≤ szB →
    whileL n (tW (QX lf pf mf) (stAt 12) 3) (bW (QX lf pf mf) (kR k) (stAt 12) 3 0) (m90 l.toArray b dep (po l r) sg oc) [.list (acc.map bB)] (pW (QX lf pf mf) (stAt 12) 4 k) =
    match commentP r dep with
    | none => .exc
    | some (w, r') => k (.tup [bB (acc ++ w).dropLast.flatten, .int (po l r')]) []
  | 0, r, dep, acc, sg, oc, s, hn, _, _ => absurd hn (Nat.not_lt_zero _)
  | n + 1, r, 0, acc, sg, oc, s, hn, ha, hf => by
    rw [whileL, t90, show decide ((0 : Int) < ((0 : Nat) : Int)) = false from rfl, br_f, p90, slice_m1, ← List.map_dropLast]
    have := flat_dl acc
    rw [joined (by exact chk [_,_,_,_] (.h 1 (.a (.v 2) (.v 3)) (.v 1) (.h 1 (.v 0) (.v 2) .z)) 1 (.v 0) (.v 1) rfl hf this) (fun w => k (.tup [.bytes w.toArray, .int (po l r)]) [])]
    rw [commentP_zero]
    show _ = k (.tup [bB (acc ++ []).dropLast.flatten, .int (po l r)]) []
    rw [List.append_nil]; rfl
  | n + 1, r, dep + 1, acc, sg, oc, s, hn, ha, hf => by
    have h76' : ∀ κ, pf 76 [.bytes l.toArray, .int (po l r), .int b] κ = _ := fun κ => h76 l r b κ ok s
    rw [whileL, t90, show decide ((0 : Int) < ((dep + 1 : Nat) : Int)) = true from decide_eq_true (by omega), br_t, b90]
    dsimp only
    rw [sl_at1 s]
    induction r using List.casesOn with
    | nil =>
      rw [show decide ((List.take 1 ([] : List UInt8)).toArray = #[40]) = false from rfl, show decide ((List.take 1 ([] : List UInt8)).toArray = #[41]) = false from rfl, br_f, br_f, h76']
      rfl
    | cons y r =>
      have s1 := suf_tail s
      dsimp only [List.length_cons] at hn ha hf
      have e40 : decide ((List.take 1 (y :: r)).toArray = #[40]) = decide (y = 40) := by
        skip; simp
      have e41 : decide ((List.take 1 (y :: r)).toArray = #[41]) = decide (y = 41) := by
        skip; simp
      rw [e40, e41]
      have go : ∀ (dep' : Nat) (dz : Int) (r' : List UInt8) (w : UInt8) (sg' : Option PV), dz = (dep' : Int) → r' <:+ l → r'.length ≤ r.length →
        bA (QX lf pf mf) (kR k) (stAt 12) 3 2 (m90 l.toArray b dz (po l (y :: r)) sg' oc) [.list (acc.map bB)] (fun m σ => whileL n (tW (QX lf pf mf) (stAt 12) 3) (bW (QX lf pf mf) (kR k) (stAt 12) 3 0) m σ (pW (QX lf pf mf) (stAt 12) 4 k)) (.tup [bB [w], .int (po l r')]) [] =
          match (commentP r' dep').map fun p => ([w] :: p.1, p.2) with
          | none => .exc
          | some (w, r') => k (.tup [bB (acc ++ w).dropLast.flatten, .int (po l r')]) [] := by
        intro dep' dz r' w sg' e s' hr
        subst e
        show bA _ _ _ _ _ _ _ _ (.tup [.bytes [w].toArray, _]) [] = _
        rw [d90, lt_lim (by exact chk [_,_,_] (.h 1 (.a (.v 0) (.a (.v 2) (.n 1))) (.v 1) .z) 1 (.v 0) (.v 1) rfl ha)]
        have := lp90 h76 ok hl b k n r' dep' (acc ++ [[w]]) sg' (some (bB [w])) s' (by exact Nat.lt_of_le_of_lt hr (Nat.lt_of_succ_lt_succ hn)) (by simp; exact chk [_,_,_,_] (.h 1 (.a (.v 0) (.a (.v 3) (.n 1))) (.v 2) (.h 1 (.v 1) (.v 3) .z)) 1 (.a (.a (.v 0) (.n 1)) (.v 1)) (.v 2) rfl ha hr) (by rw [flat1]; dsimp only [List.length_singleton]; exact chk [_,_,_,_] (.h 1 (.a (.v 0) (.a (.v 3) (.n 1))) (.v 2) (.h 1 (.v 1) (.v 3) .z)) 1 (.a (.a (.v 0) (.n 1)) (.v 1)) (.v 2) rfl hf hr)
        rw [List.map_append] at this
        refine Eq.trans this ?_
        induction commentP r' dep' using Option.casesOn with
        | none => rfl
        | some p => simp
      unfold commentP
      simp only [h76']
      by_cases q0 : y = 40
      · subst q0
        simp only [decide_true, br_t, if_true, show ((40 : UInt8) = 92) = False from by decide]
        by_cases hd : 20 < dep + 2
        · rw [show decide ((20 : Int) < ((dep + 1 : Nat) : Int) + 1) = true from decide_eq_true (by omega), if_pos hd]; rfl
        · rw [show decide ((20 : Int) < ((dep + 1 : Nat) : Int) + 1) = false from decide_eq_false (by omega), if_neg hd]
          exact go (dep + 2) _ r 40 _ (by omega) s1 (Nat.le_refl _)
      · simp only [decide_eq_false q0, br_f, if_neg q0]
        by_cases q1 : y = 41
        · subst q1
          simp only [decide_true, br_t, if_true, show ((41 : UInt8) = 92) = False from by decide]
          exact go dep _ r 41 _ (by omega) s1 (Nat.le_refl _)
        · simp only [decide_eq_false q1, br_f, if_neg q1]
          by_cases q2 : y = 92
          · subst q2
            simp only [if_true]
            induction r using List.casesOn with
            | nil => rfl
            | cons z r => exact go (dep + 1) _ r z _ rfl (suf_tail s1) (by simp)
          · simp only [if_neg q2]
            exact go (dep + 1) _ r y _ rfl s1 (Nat.le_refl _)
theorem s90 (hlf : szB < lf) (h76 : S76 pf) : S90 (SXO lf pf mf).pf := fun l r b κ ok hl s hb => by
  unfold bB
  rw [eq90, hb]
  have := s.length_le
  exact lp90 (lf := lf) (mf := mf) h76 ok hl b κ lf r 1 [] none none s (by exact Nat.lt_of_le_of_lt (Nat.le_trans this hl) hlf) (by simp; exact Nat.le_trans this hl) (by simp; exact Nat.le_trans this hl)
end Mine
end
section
set_option maxRecDepth 100000
namespace Mine
open PySem
variable {lf : Nat} {pf : PF} {mf : MF}

/- 62 is_atom_code -/
noncomputable def barB : List UInt8 := [40, 41, 60, 62, 91, 93, 58, 59, 64, 92, 44, 46, 34]
noncomputable def isA (c : UInt8) : Bool := !(barB.contains c || decide (c.toNat < 33) || decide (c.toNat = 127))
noncomputable def atomB : List Nat := [33, 35, 36, 37, 38, 39, 42, 43, 45, 47, 61, 63, 94, 95, 96, 123, 124, 125, 126]
theorem eq62 (c : Int) (k : KV) : (SXO lf pf mf).pf 62 [.int c] k =
  (let T := k (.bool true) []
   let r4 := opt (pvIn (.int c) (byt atomB)) fun b => k (.bool b) []
   let r3 := br (decide (127 < c)) T r4
   let r2 := br (decide (97 ≤ c)) (br (decide (c ≤ 122)) T r3) r3
   let r1 := br (decide (65 ≤ c)) (br (decide (c ≤ 90)) T r2) r2
   br (decide (48 ≤ c)) (br (decide (c ≤ 57)) T r1) r1) := by kernel_rfl
noncomputable def brO (c : Bool) (a b : Option Bool) : Option Bool := match c with
  | true => a
  | false => b
noncomputable def g62 (c : Int) : Option Bool :=
  (let T := some true
   let r4 := pvIn (.int c) (byt atomB)
   let r3 := brO (decide (127 < c)) T r4
   let r2 := brO (decide (97 ≤ c)) (brO (decide (c ≤ 122)) T r3) r3
   let r1 := brO (decide (65 ≤ c)) (brO (decide (c ≤ 90)) T r2) r2
   brO (decide (48 ≤ c)) (brO (decide (c ≤ 57)) T r1) r1)
theorem brO_opt (c : Bool) (a b : Option Bool) (k : Bool → Out) : opt (brO c a b) k = br c (opt a k) (opt b k) := by cases c <;> rfl
theorem g62_ok (c : UInt8) : g62 (c.toNat : Int) = some (isA c) := by
  have : ∀ n : Fin 256, g62 ((UInt8.ofNat n.val).toNat : Int) = some (isA (UInt8.ofNat n.val)) := by decide +kernel
  have := this ⟨c.toNat, c.toNat_lt⟩
  simpa using this
noncomputable def S62 (pf : PF) : Prop := ∀ (c : UInt8) (κ : KV), pf 62 [.int (c.toNat : Int)] κ = κ (.bool (isA c)) []
theorem s62 : S62 (SXO lf pf mf).pf := fun c κ => by
  have h : opt (g62 (c.toNat : Int)) (fun b => κ (.bool b) []) = κ (.bool (isA c)) [] := by rw [g62_ok]; rfl
  rw [← h]
  unfold g62
  simp only [brO_opt]
  rfl

/- 97 atom_at -/
theorem sl_to {l r w r' : List UInt8} (s : r <:+ l) (e : r = w ++ r') : bSlice l.toArray (some (po l r)) (some (po l r')) = w.toArray := by
  have h := sl_at s w.length
  have : po l r + w.length = po l r' := by subst e; unfold po; simp only [List.length_append]; omega
  rw [this] at h
  rw [h]; subst e; simp
noncomputable abbrev m97 (d : Array UInt8) (a e : Int) : Loc := [some (.bytes d), some (.int a), some (.int e), none, none]
theorem eq97 (d : Array UInt8) (a : Int) (k : KV) : (SXO lf pf mf).pf 97 [.bytes d, .int a] k = whileL lf (tW (QX lf pf mf) (stAt 13) 1) (bW (QX lf pf mf) (kR k) (stAt 13) 1 0) (m97 d a a) [] (pW (QX lf pf mf) (stAt 13) 2 k) := by kernel_rfl
theorem t97 (d : Array UInt8) (a e : Int) (k : KB) : tW (QX lf pf mf) (stAt 13) 1 (m97 d a e) [] k = br (decide (e < d.size)) (opt (bIdx d e) fun c => pf 62 [.int c] (bK [] fun c σ => br c (k true σ) (k false σ))) (k false []) := by kernel_rfl
theorem b97 (d : Array UInt8) (a e : Int) (kr : KV) (k : KS) : bW (QX lf pf mf) kr (stAt 13) 1 0 (m97 d a e) [] k = k (m97 d a (e + 1)) [] := by kernel_rfl
theorem p97 (d : Array UInt8) (a e : Int) (k : KV) : pW (QX lf pf mf) (stAt 13) 2 k (m97 d a e) [] = k (.tup [.bytes (bSlice d (some a) (some e)), .int e]) [] := by kernel_rfl
noncomputable def S97 (pf : PF) : Prop := ∀ (l r : List UInt8) (κ : KV), l.length ≤ szB → r <:+ l → pf 97 [bB l, .int (po l r)] κ = κ (.tup [bB (r.takeWhile isA), .int (po l (r.dropWhile isA))]) []
theorem lp97 (h62 : S62 pf) {l : List UInt8} (a : Int) (k : KV) : ∀ (n : Nat) (r : List UInt8), r <:+ l → r.length < n →
    whileL n (tW (QX lf pf mf) (stAt 13) 1) (bW (QX lf pf mf) (kR k) (stAt 13) 1 0) (m97 l.toArray a (po l r)) [] (pW (QX lf pf mf) (stAt 13) 2 k) = k (.tup [.bytes (bSlice l.toArray (some a) (some (po l (r.dropWhile isA)))), .int (po l (r.dropWhile isA))]) []
  | 0, r, s, hn => absurd hn (Nat.not_lt_zero _)
  | n + 1, r, s, hn => by
    have hz : ((l.toArray.size : Int)) = l.length := by simp
    rw [whileL, t97, hz, lt_at s]
    induction r using List.casesOn with
    | nil => simp only [List.isEmpty_nil, Bool.not_true, br_f, p97, List.dropWhile_nil]
    | cons c r =>
      simp only [List.length_cons] at hn
      rw [ix_at s]
      simp only [List.isEmpty_cons, Bool.not_false, br_t, opt_s]
      rw [h62]
      show br (isA c) _ _ = _
      rw [List.dropWhile_cons]
      induction isA c using Bool.casesOn with
      | true =>
        rw [br_t, b97, po_tail]
        exact lp97 h62 a k n r (suf_tail s) (by exact Nat.le_of_lt_succ hn)
      | false =>
        skip; rfl
theorem s97 (hlf : szB < lf) (h62 : S62 pf) : S97 (SXO lf pf mf).pf := fun l r κ hl s => by
  have := s.length_le
  unfold bB
  rw [eq97, lp97 h62 _ κ lf r s (by exact Nat.lt_of_le_of_lt (Nat.le_trans this hl) hlf), sl_to s (List.takeWhile_append_dropWhile (p := isA) (l := r)).symm]

/- 104 token_at -/
inductive TK where
  | atom | quoted | literal | comment | sign
  deriving DecidableEq
structure Tok where
  kd : TK
  w : List UInt8
  at_ : Int
noncomputable def nmK : TK → Str
  | .atom => sOf "atom"
  | .quoted => sOf "quoted"
  | .literal => sOf "literal"
  | .comment => sOf "comment"
  | .sign => sOf "sign"
noncomputable def enc (t : Tok) : PV := .tup [.str (nmK t.kd), .bytes t.w.toArray, .int t.at_]
noncomputable def signB : List UInt8 := [60, 62, 64, 44, 59, 58, 46, 92]
noncomputable def tokP (a : Int) (x : UInt8) (r : List UInt8) : Option (Tok × List UInt8) :=
  if x = 34 then (closedP 34 [] r).map fun p => (⟨.quoted, p.1, a⟩, p.2) else
  if x = 91 then (closedP 93 [91] r).map fun p => (⟨.literal, p.1, a⟩, p.2) else
  if x = 40 then (commentP r 1).map fun p => (⟨.comment, p.1.dropLast.flatten, a⟩, p.2) else
  if signB.contains x then some (⟨.sign, [x], a⟩, r) else
  if isA x then some (⟨.atom, (x :: r).takeWhile isA, a⟩, (x :: r).dropWhile isA) else none
noncomputable abbrev m104 (d : Array UInt8) (a : Int) (s w b : Option PV) : Loc := [some (.bytes d), some (.int a), s, w, b, none, none, none, none, none, none]
theorem eq104 (d : Array UInt8) (a : Int) (k : KV) : (SXO lf pf mf).pf 104 [.bytes d, .int a] k =
  (let s := bSlice d (some a) (some (a + 1))
   let m := m104 d a (some (.bytes s)) none none
   let Q := QX lf pf mf
   br (decide (s = #[34])) (pf 83 [.bytes d, .int a, bB [34], bB []] (iA Q (stAt 14) 1 0 k m []))
   (br (decide (s = #[91])) (pf 83 [.bytes d, .int a, bB [93], bB [91]] (iA Q (stAt 14) 2 0 k m []))
   (br (decide (s = #[40])) (pf 90 [.bytes d, .int a] (iA Q (stAt 14) 3 0 k m []))
   (opt (pvIn (.bytes s) (byt [60, 62, 64, 44, 59, 58, 46, 92])) fun c => br c (k (.tup [.tup [.str (sOf "sign"), .bytes s, .int a], .int (a + 1)]) [])
   (opt (bIdx d a) fun c => pf 62 [.int c] (bK [] fun c σ => br (!c) .exc (pf 97 [.bytes d, .int a] (pA Q (stAt 14) 6 k m [])))))))) := by kernel_rfl
theorem a104q (d : Array UInt8) (a : Int) (s : Option PV) (k : KV) (w : Array UInt8) (b : Int) : iA (QX lf pf mf) (stAt 14) 1 0 k (m104 d a s none none) [] (.tup [.bytes w, .int b]) [] = k (.tup [.tup [.str (sOf "quoted"), .bytes w, .int a], .int b]) [] := by kernel_rfl
theorem a104l (d : Array UInt8) (a : Int) (s : Option PV) (k : KV) (w : Array UInt8) (b : Int) : iA (QX lf pf mf) (stAt 14) 2 0 k (m104 d a s none none) [] (.tup [.bytes w, .int b]) [] = k (.tup [.tup [.str (sOf "literal"), .bytes w, .int a], .int b]) [] := by kernel_rfl
theorem a104c (d : Array UInt8) (a : Int) (s : Option PV) (k : KV) (w : Array UInt8) (b : Int) : iA (QX lf pf mf) (stAt 14) 3 0 k (m104 d a s none none) [] (.tup [.bytes w, .int b]) [] = k (.tup [.tup [.str (sOf "comment"), .bytes w, .int a], .int b]) [] := by kernel_rfl
theorem a104a (d : Array UInt8) (a : Int) (s : Option PV) (k : KV) (w : Array UInt8) (b : Int) : pA (QX lf pf mf) (stAt 14) 6 k (m104 d a s none none) [] (.tup [.bytes w, .int b]) [] = k (.tup [.tup [.str (sOf "atom"), .bytes w, .int a], .int b]) [] := by kernel_rfl
noncomputable def S104 (pf : PF) : Prop := ∀ (l r : List UInt8) (x : UInt8) (κ : KV), okL l → l.length ≤ szB → x :: r <:+ l → pf 104 [bB l, .int (po l (x :: r))] κ =
  match tokP (po l (x :: r)) x r with
  | none => .exc
  | some (t, r') => κ (.tup [enc t, .int (po l r')]) []
theorem one_in (x : UInt8) (e : List UInt8) : pvIn (.bytes #[x]) (.bytes e.toArray) = some (e.contains x) := by
  show some ((e.toArray.toList.any fun d => d == x)) = _
  congr 1
  show (e.any fun d => d == x) = _
  induction e with
  | nil => rfl
  | cons y e ih =>
    rw [List.any_cons]
    congr 1
    exact Bool.beq_comm
theorem s104 (h83 : S83 pf) (h90 : S90 pf) (h62 : S62 pf) (h97 : S97 pf) : S104 (SXO lf pf mf).pf := fun l r x κ ok hl s => by
  have s1 := suf_tail s
  have q83 : ∀ c e κ, pf 83 [.bytes l.toArray, .int (po l (x :: r)), bB [c], bB e] κ = _ := fun c e κ => h83 l r (po l (x :: r)) c e κ ok hl s1 (po_tail l r x)
  have q90 : ∀ κ, pf 90 [.bytes l.toArray, .int (po l (x :: r))] κ = _ := fun κ => h90 l r (po l (x :: r)) κ ok hl s1 (po_tail l r x)
  have q97 : ∀ κ, pf 97 [.bytes l.toArray, .int (po l (x :: r))] κ = _ := fun κ => h97 l (x :: r) κ hl s
  have ee : ∀ y : UInt8, decide ((#[x] : Array UInt8) = #[y]) = decide (x = y) := fun y => by
    skip; simp
  unfold bB
  rw [eq104]
  dsimp only
  rw [sl_at1 s, show (List.take 1 (x :: r)).toArray = #[x] from rfl, ee, ee, ee, ix_at s, opt_s, q83, q83, q90, show byt [60, 62, 64, 44, 59, 58, 46, 92] = .bytes signB.toArray from rfl, one_in, opt_s, h62]
  unfold tokP
  by_cases h1 : x = 34
  · rw [decide_eq_true h1, if_pos h1]
    induction closedP 34 [] r using Option.casesOn with
    | none => rfl
    | some p => show iA _ _ _ _ _ _ _ (.tup [.bytes p.1.toArray, _]) [] = _; skip; rfl
  rw [decide_eq_false h1, br_f, if_neg h1]
  by_cases h2 : x = 91
  · rw [decide_eq_true h2, if_pos h2]
    induction closedP 93 [91] r using Option.casesOn with
    | none => rfl
    | some p => show iA _ _ _ _ _ _ _ (.tup [.bytes p.1.toArray, _]) [] = _; skip; rfl
  rw [decide_eq_false h2, br_f, if_neg h2]
  by_cases h3 : x = 40
  · rw [decide_eq_true h3, if_pos h3]
    induction commentP r 1 using Option.casesOn with
    | none => rfl
    | some p => show iA _ _ _ _ _ _ _ (.tup [.bytes p.1.dropLast.flatten.toArray, _]) [] = _; skip; rfl
  rw [decide_eq_false h3, if_neg h3]
  induction signB.contains x using Bool.casesOn with
  | true => rw [po_tail]; rfl
  | false =>
    skip
    show br (!isA x) _ _ = _
    induction isA x using Bool.casesOn with
    | false => rfl
    | true =>
      rw [q97]
      show pA _ _ _ _ _ _ (.tup [.bytes ((x :: r).takeWhile isA).toArray, _]) [] = _
      skip; rfl
end Mine
end
section
set_option maxRecDepth 100000
namespace Mine
open PySem
variable {lf : Nat} {pf : PF} {mf : MF}

/- 111 past_white -/
noncomputable def isW (c : UInt8) : Bool := c == 9 || c == 32
noncomputable def wh (r : List UInt8) : List UInt8 := r.dropWhile isW
theorem wh_suf (r : List UInt8) : wh r <:+ r := List.dropWhile_suffix _
theorem wh_nil : wh [] = [] := rfl
theorem wh_cons (c : UInt8) (r : List UInt8) : wh (c :: r) = if isW c then wh r else c :: r := List.dropWhile_cons
theorem white_any (c : UInt8) : anyInt (c.toNat : Int) [9, 32] = isW c := by
  have : ∀ n : Fin 256, anyInt ((UInt8.ofNat n.val).toNat : Int) [9, 32] = isW (UInt8.ofNat n.val) := by decide +kernel
  have := this ⟨c.toNat, c.toNat_lt⟩
  simpa using this
noncomputable abbrev m111 (d : Array UInt8) (a : Int) (b : Option PV) : Loc := [some (.bytes d), some (.int a), b, none, none]
theorem eq111 (d : Array UInt8) (a : Int) (k : KV) : (SXO lf pf mf).pf 111 [.bytes d, .int a] k = whileL lf (tW (QX lf pf mf) (stAt 15) 0) (bW (QX lf pf mf) (kR k) (stAt 15) 0 0) (m111 d a none) [] (pW (QX lf pf mf) (stAt 15) 1 k) := by kernel_rfl
theorem t111 (d : Array UInt8) (a : Int) (b : Option PV) (k : KB) : tW (QX lf pf mf) (stAt 15) 0 (m111 d a b) [] k = k (decide (a < d.size)) [] := by kernel_rfl
theorem b111 (d : Array UInt8) (a : Int) (b : Option PV) (κ : KV) (k : KS) : bW (QX lf pf mf) (kR κ) (stAt 15) 0 0 (m111 d a b) [] k =
  opt (bIdx d a) fun c => br (anyInt c [9, 32]) (br (decide (a + 1 < 0)) (κ (.int a) []) (k (m111 d (a + 1) (some (.int (a + 1)))) [])) (pf 69 [.bytes d, .int a] (bA (QX lf pf mf) (kR κ) (stAt 15) 0 0 (m111 d a b) [] k)) := by kernel_rfl
theorem a111 (d : Array UInt8) (a e : Int) (b : Option PV) (κ : KV) (k : KS) : bA (QX lf pf mf) (kR κ) (stAt 15) 0 0 (m111 d a b) [] k (.int e) [] = br (decide (e < 0)) (κ (.int a) []) (k (m111 d e (some (.int e))) []) := by kernel_rfl
theorem p111 (d : Array UInt8) (a : Int) (b : Option PV) (k : KV) : pW (QX lf pf mf) (stAt 15) 1 k (m111 d a b) [] = k (.int a) [] := by kernel_rfl
noncomputable def S111 (pf : PF) : Prop := ∀ (l r : List UInt8) (κ : KV), okL l → l.length ≤ szB → r <:+ l → pf 111 [bB l, .int (po l r)] κ = κ (.int (po l (wh r))) []
theorem lp111 (h69 : S69 pf) {l : List UInt8} (ok : okL l) (k : KV) : ∀ (n : Nat) (r : List UInt8) (b : Option PV), r <:+ l → r.length < n →
    whileL n (tW (QX lf pf mf) (stAt 15) 0) (bW (QX lf pf mf) (kR k) (stAt 15) 0 0) (m111 l.toArray (po l r) b) [] (pW (QX lf pf mf) (stAt 15) 1 k) = k (.int (po l (wh r))) []
  | 0, r, b, s, hn => absurd hn (Nat.not_lt_zero _)
  | n + 1, r, b, s, hn => by
    have hz : ((l.toArray.size : Int)) = l.length := by simp
    have q69 : ∀ κ, pf 69 [.bytes l.toArray, .int (po l r)] κ = _ := fun κ => h69 l r κ ok s
    rw [whileL, t111, hz, lt_at s]
    induction r using List.casesOn with
    | nil => simp only [List.isEmpty_nil, Bool.not_true, br_f, p111, wh_nil]
    | cons c r =>
      dsimp only [List.length_cons] at hn
      have s1 := suf_tail s
      have hp := po_pos s1
      dsimp only [List.isEmpty_cons, Bool.not_false, br_t]
      rw [b111, ix_at s, opt_s, white_any, wh_cons]
      induction isW c using Bool.casesOn with
      | true =>
        rw [po_tail, show decide (po l r < 0) = false from decide_eq_false (by omega)]
        exact lp111 h69 ok k n r _ s1 (by exact Nat.le_of_lt_succ hn)
      | false =>
        rw [q69]; rfl
theorem s111 (hlf : szB < lf) (h69 : S69 pf) : S111 (SXO lf pf mf).pf := fun l r κ ok hl s => by
  have := s.length_le
  unfold bB
  rw [eq111, lp111 h69 ok κ lf r none s (by exact Nat.lt_of_le_of_lt (Nat.le_trans this hl) hlf)]

/- 118 tokens_of -/
noncomputable def toksP (l : List UInt8) : Nat → List UInt8 → Option (List Tok)
  | 0, _ => none
  | n + 1, r => match wh r with
    | [] => some []
    | x :: r1 => match tokP (po l (x :: r1)) x r1 with
      | none => none
      | some (t, r') => (toksP l n r').map fun ts => t :: ts
set_option tactic.hygienic true in
theorem closedP_suf {c : UInt8} {e : List UInt8} : ∀ {r w r' : List UInt8}, closedP c e r = some (w, r') → r' <:+ r ∧ w.length + r'.length < r.length
  | [], w, r', h => by exact nns h
  | x :: r, w, r', h => by
    unfold closedP at h
    split at h
    · cases h; exact ⟨List.suffix_cons _ _, by simp⟩
    · split at h
      · exact nns h
      · split at h
        · split at h
          · exact nns h
          · rename_i y r
            induction q : closedP c e r using Option.casesOn with
            | none => rw [q] at h; exact nns h
            | some p =>
              rw [q] at h; cases h
              obtain ⟨a, b⟩ := closedP_suf q
              exact ⟨a.trans ((List.suffix_cons _ _).trans (List.suffix_cons _ _)), by dsimp only [List.length_cons]; exact chk [_,_,_] (.h 1 (.a (.a (.v 0) (.v 1)) (.n 1)) (.v 2) .z) 1 (.a (.a (.a (.v 0) (.n 1)) (.v 1)) (.n 1)) (.a (.a (.v 2) (.n 1)) (.n 1)) rfl b⟩
        · induction q : closedP c e r using Option.casesOn with
          | none => rw [q] at h; exact nns h
          | some p =>
            rw [q] at h; cases h
            obtain ⟨a, b⟩ := closedP_suf q
            exact ⟨a.trans (List.suffix_cons _ _), by dsimp only [List.length_cons]; exact chk [_,_,_] (.h 1 (.a (.a (.v 0) (.v 1)) (.n 1)) (.v 2) .z) 1 (.a (.a (.a (.v 0) (.n 1)) (.v 1)) (.n 1)) (.a (.v 2) (.n 1)) rfl b⟩
theorem commentP_suf : ∀ {r : List UInt8} {d : Nat} {w : List (List UInt8)} {r' : List UInt8}, commentP r d = some (w, r') → r' <:+ r ∧ w.flatten.length + r'.length ≤ r.length
  | r, 0, w, r', h => by rw [commentP_zero] at h; cases h; exact ⟨List.suffix_refl _, by simp⟩
  | [], d + 1, w, r', h => by exact nns h
  | x :: r, d + 1, w, r', h => by
    have go : ∀ {d' : Nat} {y : UInt8} {q : List UInt8}, q.length ≤ r.length → q <:+ r → (commentP q d').map (fun p => ([y] :: p.1, p.2)) = some (w, r') → r' <:+ x :: r ∧ w.flatten.length + r'.length ≤ (x :: r).length := by
      intro d' y q hq hs h
      induction e : commentP q d' using Option.casesOn with
      | none => rw [e] at h; exact nns h
      | some p =>
        rw [e] at h; cases h
        obtain ⟨a, b⟩ := commentP_suf e
        refine ⟨(a.trans hs).trans (List.suffix_cons _ _), ?_⟩
        simp only [List.flatten_cons, List.length_append, List.length_cons, List.length_nil]
        exact chk [_,_,_,_] (.h 1 (.v 3) (.v 2) (.h 1 (.a (.v 0) (.v 1)) (.v 3) .z)) 1 (.a (.a (.a (.n 0) (.n 1)) (.v 0)) (.v 1)) (.a (.v 2) (.n 1)) rfl hq b
    unfold commentP at h
    split at h
    · split at h
      · exact nns h
      · exact go (Nat.le_refl _) (List.suffix_refl _) h
    · split at h
      · exact go (Nat.le_refl _) (List.suffix_refl _) h
      · split at h
        · split at h
          · exact nns h
          · exact go (by simp) (List.suffix_cons _ _) h
        · exact go (Nat.le_refl _) (List.suffix_refl _) h
theorem tokP_suf {a : Int} {x : UInt8} {r : List UInt8} {t : Tok} {r' : List UInt8} (h : tokP a x r = some (t, r')) : r' <:+ r ∧ t.w.length + r'.length ≤ r.length + 1 ∧ t.at_ = a := by
  unfold tokP at h
  split at h
  · induction q : closedP 34 [] r using Option.casesOn with
    | none => rw [q] at h; exact nns h
    | some p => rw [q] at h; cases h; obtain ⟨a, b⟩ := closedP_suf q; exact ⟨a, by show p.1.length + _ ≤ _; exact Nat.le_succ_of_le (Nat.le_of_lt b), rfl⟩
  split at h
  · induction q : closedP 93 [91] r using Option.casesOn with
    | none => rw [q] at h; exact nns h
    | some p => rw [q] at h; cases h; obtain ⟨a, b⟩ := closedP_suf q; exact ⟨a, by show p.1.length + _ ≤ _; exact Nat.le_succ_of_le (Nat.le_of_lt b), rfl⟩
  split at h
  · induction q : commentP r 1 using Option.casesOn with
    | none => rw [q] at h; exact nns h
    | some p =>
      rw [q] at h; cases h; obtain ⟨a, b⟩ := commentP_suf q
      have := flat_dl p.1
      exact ⟨a, by show p.1.dropLast.flatten.length + _ ≤ _; exact chk [_,_,_,_] (.h 1 (.a (.v 3) (.v 1)) (.v 2) (.h 1 (.v 0) (.v 3) .z)) 1 (.a (.v 0) (.v 1)) (.a (.v 2) (.n 1)) rfl b this, rfl⟩
  split at h
  · cases h; exact ⟨List.suffix_refl _, by simp; exact chk [_] .z 1 (.a (.n 1) (.v 0)) (.a (.v 0) (.n 1)) rfl, rfl⟩
  split at h
  · rename_i hA
    cases h
    rw [List.dropWhile_cons, if_pos hA]
    refine ⟨List.dropWhile_suffix _, ?_, rfl⟩
    show ((x :: r).takeWhile isA).length + _ ≤ _
    rw [List.takeWhile_cons, if_pos hA]
    have := congrArg List.length (List.takeWhile_append_dropWhile (p := isA) (l := r))
    simp only [List.length_append, List.length_cons] at this ⊢
    exact chk [_,_,_] (.h 1 (.a (.v 0) (.v 1)) (.v 2) .z) 1 (.a (.a (.v 0) (.n 1)) (.v 1)) (.a (.v 2) (.n 1)) rfl (Nat.le_of_eq this)
  · exact nns h
noncomputable def sz (ts : List Tok) : Nat := (ts.map fun t => t.w.length + 1).sum
set_option tactic.hygienic true in
theorem toksP_sz {l : List UInt8} : ∀ {n : Nat} {r : List UInt8} {ts : List Tok}, toksP l n r = some ts → sz ts ≤ 2 * r.length
  | 0, r, ts, h => by exact nns h
  | n + 1, r, ts, h => by
    unfold toksP at h
    have hw := (wh_suf r).length_le
    split at h
    · cases h; simp [sz]
    · rename_i x r1 e
      rw [e] at hw
      split at h
      · exact nns h
      · rename_i t r' q
        obtain ⟨a, b, _⟩ := tokP_suf q
        have := a.length_le
        induction q2 : toksP l n r' using Option.casesOn with
        | none => rw [q2] at h; exact nns h
        | some us =>
          rw [q2] at h; cases h
          have := toksP_sz q2
          simp only [sz, List.map_cons, List.sum_cons] at this ⊢
          dsimp only [List.length_cons] at hw
          exact chk [_,_,_,_,_] (.h 2 (.a (.v 3) (.n 1)) (.v 2) (.h 1 (.a (.v 0) (.v 4)) (.a (.v 3) (.n 1)) (.h 1 (.v 4) (.v 3) (.h 1 (.v 1) (.m 2 (.v 4)) .z)))) 1 (.a (.a (.v 0) (.n 1)) (.v 1)) (.m 2 (.v 2)) rfl hw b (by assumption) this
noncomputable abbrev m118 (d : Array UInt8) (a t : Option PV) : Loc := [some (.bytes d), some (.cell 0), a, t, none, none, none]
theorem eq118 (d : Array UInt8) (k : KV) : (SXO lf pf mf).pf 118 [.bytes d] k = pf 111 [.bytes d, .int 0] (pA (QX lf pf mf) (stAt 16) 1 k (m118 d none none) [.list []]) := by kernel_rfl
theorem a118 (d : Array UInt8) (a : Int) (k : KV) : pA (QX lf pf mf) (stAt 16) 1 k (m118 d none none) [.list []] (.int a) [] = whileL lf (tW (QX lf pf mf) (stAt 16) 2) (bW (QX lf pf mf) (kR k) (stAt 16) 2 0) (m118 d (some (.int a)) none) [.list []] (pW (QX lf pf mf) (stAt 16) 3 k) := by kernel_rfl
theorem t118 (d : Array UInt8) (a : Int) (t : Option PV) (l : List PV) (k : KB) : tW (QX lf pf mf) (stAt 16) 2 (m118 d (some (.int a)) t) [.list l] k = k (decide (a < d.size)) [.list l] := by kernel_rfl
theorem b118 (d : Array UInt8) (a : Int) (t : Option PV) (l : List PV) (κ : KV) (k : KS) : bW (QX lf pf mf) (kR κ) (stAt 16) 2 0 (m118 d (some (.int a)) t) [.list l] k =
  pf 104 [.bytes d, .int a] (bA (QX lf pf mf) (kR κ) (stAt 16) 2 0 (m118 d (some (.int a)) t) [.list l] k) := by kernel_rfl
theorem c118 (d : Array UInt8) (a i : Int) (t : Option PV) (q : Tok) (l : List PV) (κ : KV) (k : KS) : bA (QX lf pf mf) (kR κ) (stAt 16) 2 0 (m118 d (some (.int a)) t) [.list l] k (.tup [enc q, .int i]) [] =
  br (decide (l.length < LIM)) (pf 111 [.bytes d, .int i] (bA (QX lf pf mf) (kR κ) (stAt 16) 2 2 (m118 d (some (.int i)) (some (enc q))) [.list (l ++ [enc q])] k)) .stuck := by kernel_rfl
theorem d118 (d : Array UInt8) (a i : Int) (t : Option PV) (l : List PV) (κ : KV) (k : KS) : bA (QX lf pf mf) (kR κ) (stAt 16) 2 2 (m118 d (some (.int a)) t) [.list l] k (.int i) [] = k (m118 d (some (.int i)) t) [.list l] := by kernel_rfl
theorem p118 (d : Array UInt8) (a : Int) (t : Option PV) (l : List PV) (k : KV) : pW (QX lf pf mf) (stAt 16) 3 k (m118 d (some (.int a)) t) [.list l] = k (.lst l) [] := by kernel_rfl
noncomputable def S118 (pf : PF) : Prop := ∀ (l : List UInt8) (κ : KV), okL l → l.length ≤ szB → pf 118 [bB l] κ =
  match toksP l (l.length + 1) l with
  | none => .exc
  | some ts => κ (.lst (ts.map enc)) []
theorem lp118 (h104 : S104 pf) (h111 : S111 pf) {l : List UInt8} (ok : okL l) (hl : l.length ≤ szB) (k : KV) : ∀ (n m : Nat) (r : List UInt8) (acc : List Tok) (t : Option PV), r <:+ l → r.length < n → r.length < m → acc.length + r.length ≤ szB →
    whileL n (tW (QX lf pf mf) (stAt 16) 2) (bW (QX lf pf mf) (kR k) (stAt 16) 2 0) (m118 l.toArray (some (.int (po l (wh r)))) t) [.list (acc.map enc)] (pW (QX lf pf mf) (stAt 16) 3 k) =
    match toksP l m r with
    | none => .exc
    | some ts => k (.lst ((acc ++ ts).map enc)) []
  | 0, m, r, acc, t, s, hn, hm, ha => absurd hn (Nat.not_lt_zero _)
  | n + 1, 0, r, acc, t, s, hn, hm, ha => absurd hm (Nat.not_lt_zero _)
  | n + 1, m + 1, r, acc, t, s, hn, hm, ha => by
    have hz : ((l.toArray.size : Int)) = l.length := by simp
    have sw := wh_suf r
    have hw := sw.length_le
    have sl := sw.trans s
    rw [whileL, t118, hz, lt_at sl]
    unfold toksP
    induction e : wh r using List.casesOn with
    | nil =>
      simp only [List.isEmpty_nil, Bool.not_true, br_f, p118, List.append_nil]
    | cons x r1 =>
      rw [e] at hw sl
      dsimp only [List.length_cons] at hw
      have q104 : ∀ κ, pf 104 [.bytes l.toArray, .int (po l (x :: r1))] κ = _ := fun κ => h104 l r1 x κ ok hl sl
      dsimp only [List.isEmpty_cons, Bool.not_false, br_t]
      rw [b118, q104]
      induction q : tokP (po l (x :: r1)) x r1 using Option.casesOn with
      | none => rfl
      | some p =>
        refine nn fun nG => ?_
        obtain ⟨a, b, _⟩ := tokP_suf q
        refine nG ?_
        have sr : p.2 <:+ l := a.trans (suf_tail sl)
        have := a.length_le
        have q111 : ∀ κ, pf 111 [.bytes l.toArray, .int (po l p.2)] κ = _ := fun κ => h111 l p.2 κ ok hl sr
        dsimp only
        rw [c118, lt_lim (by exact chk [_,_,_] (.h 1 (.a (.v 0) (.v 2)) (.v 1) .z) 1 (.v 0) (.v 1) rfl ha), q111]
        have := lp118 h104 h111 ok hl k n m p.2 (acc ++ [p.1]) (some (enc p.1)) sr (by exact Nat.lt_of_lt_of_le (Nat.lt_of_le_of_lt this hw) (Nat.le_of_lt_succ hn)) (by exact Nat.lt_of_lt_of_le (Nat.lt_of_le_of_lt this hw) (Nat.le_of_lt_succ hm)) (by simp; exact chk [_,_,_,_,_] (.h 1 (.a (.v 0) (.v 3)) (.v 2) (.h 1 (.a (.v 4) (.n 1)) (.v 3) (.h 1 (.v 1) (.v 4) .z))) 1 (.a (.a (.v 0) (.n 1)) (.v 1)) (.v 2) rfl ha hw this)
        rw [List.map_append] at this
        refine Eq.trans this ?_
        induction toksP l m p.2 using Option.casesOn with
        | none => rfl
        | some ts => simp
theorem s118 (hlf : szB < lf) (h104 : S104 pf) (h111 : S111 pf) : S118 (SXO lf pf mf).pf := fun l κ ok hl => by
  have q := h111 l l
  rw [po_self] at q
  unfold bB at q ⊢
  rw [eq118, q _ ok hl (List.suffix_refl _)]
  exact lp118 h104 h111 ok hl κ lf (l.length + 1) l [] none (List.suffix_refl _) (by exact Nat.lt_of_le_of_lt hl hlf) (by exact Nat.lt_succ_self _) (by simp; exact hl)
end Mine
end
section
set_option maxRecDepth 100000
namespace Mine
open PySem
variable {lf : Nat} {pf : PF} {mf : MF}

/- comprehensions -/
noncomputable def cF (Q : Orc) (n : Nat) (e : PySem.Expr) : PV → List Cell → (Option PV → List Cell → Out) → Out := match e with
  | .ListComp elt [⟨.Name x _, it, ifs, _⟩] sc _ => fun x' σ k' => setN sc.names x x' (sc.names.map fun ζ => .none) fun m' =>
      ifsE Q sc.names n ifs m' σ fun c σ => br c (evalE Q sc.names n elt m' σ fun y σ => noCell y (k' (some y) σ)) (k' .none σ)
  | _ => fun ζ ζ ζ => .stuck
noncomputable def retE (st : Stmt) (j : Nat) : PySem.Expr := match (fBody st)[j]? with
  | some (.Return (some e) _) => e
  | _ => .Constant .none 0 ⟨0, 0, 0, 0⟩
noncomputable def argE (e : PySem.Expr) : PySem.Expr := match e with
  | .Call _ (a :: _) _ _ => a
  | _ => .Constant .none 0 ⟨0, 0, 0, 0⟩
noncomputable def cmpL (e : PySem.Expr) : PySem.Expr := match e with
  | .Compare l _ _ _ => l
  | _ => .Constant .none 0 ⟨0, 0, 0, 0⟩
theorem compL_fm {β : Type} {f : PV → List Cell → (Option PV → List Cell → Out) → Out} {en : β → PV} {g : β → Option PV} {σ : List Cell} : ∀ (xs : List β), (∀ x ∈ xs, ∀ k', f (en x) σ k' = k' (g x) σ) → ∀ k, compL (xs.map en) f σ k = k (xs.filterMap g) σ
  | [], h, k => rfl
  | x :: xs, h, k => by
    have := compL_fm xs fun y hy => h y (.tail _ hy)
    rw [List.map_cons, compL, h x (.head _), this, List.filterMap_cons]
    cases g x <;> rfl

/- 123 without_comments -/
noncomputable def notC (t : Tok) : Bool := match t.kd with
  | .comment => false
  | _ => true
theorem eq123 (l : List PV) (k : KV) : (SXO lf pf mf).pf 123 [.lst l] k = compL l (cF (QX lf pf mf) 58 (retE (stAt 17) 0)) [] fun ys σ => k (.lst ys) [] := by kernel_rfl
theorem c123 (t : Tok) (k' : Option PV → List Cell → Out) : cF (QX lf pf mf) 58 (retE (stAt 17) 0) (enc t) [] k' = k' (if notC t then some (enc t) else none) [] := by
  obtain ⟨kd, w, a⟩ := t
  cases kd <;> kernel_rfl
noncomputable def S123 (pf : PF) : Prop := ∀ (ts : List Tok) (κ : KV), pf 123 [.lst (ts.map enc)] κ = κ (.lst ((ts.filter notC).map enc)) []
theorem s123 : S123 (SXO lf pf mf).pf := fun ts κ => by
  rw [eq123, compL_fm ts fun t ζ k' => c123 t k']
  have : ts.filterMap (fun t => if notC t then some (enc t) else none) = (ts.filter notC).map enc := by
    induction ts with
    | nil => rfl
    | cons t ts ih =>
      rw [List.filterMap_cons, List.filter_cons]
      cases notC t <;> simp [ih]
  rw [this]

/- 130 phrase_of -/
noncomputable def isPt (t : Tok) : Bool := decide (t.kd = .sign) && decide (t.w = [46])
noncomputable def isWd (t : Tok) : Bool := decide (t.kd = .atom) || decide (t.kd = .quoted)
noncomputable def phraseP (g : Int) (st : Bool) : List Tok → Option (List (List UInt8))
  | [] => some []
  | t :: ts => if isWd t || isPt t then (phraseP (if isPt t then t.at_ + 1 else -1) true ts).map fun p => (if st && !isPt t && !decide (t.at_ = g) then [[32]] else []) ++ t.w :: p else none
noncomputable def fK (Q : Orc) (st : Stmt) (i : Nat) (k : KV) (m : Loc) (σ : List Cell) : KV := fun v fr => retK σ v fr fun v σ => opt (items v) fun xs => forL xs (bF Q (kR k) st i) m σ (pW Q st (i + 1) k)
noncomputable abbrev m130 (l g : PV) (a b c d : Option PV) : Loc := [some l, some (.cell 0), some g, a, b, c, d, none, none, none]
theorem eq130 (l : List PV) (k : KV) : (SXO lf pf mf).pf 130 [.lst l] k = pf 123 [.lst l] (fK (QX lf pf mf) (stAt 18) 2 k (m130 (.lst l) (.int 0) none none none none) [.list []]) := by kernel_rfl
theorem b130 (v : PV) (g : Int) (a b c d : Option PV) (s : Str) (w : Array UInt8) (at_ : Int) (l : List PV) (κ : KV) (k : KS) : bF (QX lf pf mf) (kR κ) (stAt 18) 2 (.tup [.str s, .bytes w, .int at_]) (m130 v (.int g) a b c d) [.list l] k =
  (let m := fun (ip : Bool) (g : Int) => m130 v (.int g) (some (.str s)) (some (.bytes w)) (some (.int at_)) (some (.bool ip))
   let r3 := fun (ip : Bool) (l : List PV) => br (decide (l.length < LIM)) (br ip (k (m ip (at_ + 1)) [.list (l ++ [.bytes w])]) (k (m ip (-1)) [.list (l ++ [.bytes w])])) .stuck
   let r2 := fun (ip : Bool) => br (decide ((0 : Int) < (l.length : Int))) (br (!ip) (br (!decide (at_ = g)) (br (decide (l.length < LIM)) (r3 ip (l ++ [bB [32]])) .stuck) (r3 ip l)) (r3 ip l)) (r3 ip l)
   let r1 := fun (ip : Bool) => br (!(anyStr s [sOf "atom", sOf "quoted"])) (br (!ip) .exc (r2 ip)) (r2 ip)
   br (decide (s = sOf "sign")) (r1 (decide (w = #[46]))) (r1 false)) := by kernel_rfl
theorem p130 (v : PV) (g : PV) (a b c d : Option PV) (l : List PV) (k : KV) : pW (QX lf pf mf) (stAt 18) 3 k (m130 v g a b c d) [.list l] = opt (bytesOf l) fun bs => br (jFit 0 (bs.map (·.size))) (k (.bytes (bJoin [] bs).toArray) []) .stuck := by kernel_rfl
theorem is_sign (t : Tok) : decide (nmK t.kd = sOf "sign") = decide (t.kd = .sign) := by
  cases t.kd <;> kernel_rfl
theorem is_word (t : Tok) : anyStr (nmK t.kd) [sOf "atom", sOf "quoted"] = isWd t := by
  obtain ⟨kd, w, a⟩ := t
  cases kd <;> kernel_rfl
theorem b130' (v : PV) (g : Int) (a b c d : Option PV) (t : Tok) (acc : List (List UInt8)) (ha : acc.length + 1 ≤ szB) (κ : KV) (k : KS) : bF (QX lf pf mf) (kR κ) (stAt 18) 2 (enc t) (m130 v (.int g) a b c d) [.list (acc.map bB)] k =
  if isWd t || isPt t then k (m130 v (.int (if isPt t then t.at_ + 1 else -1)) (some (.str (nmK t.kd))) (some (bB t.w)) (some (.int t.at_)) (some (.bool (isPt t)))) [.list ((acc ++ ((if !acc.isEmpty && !isPt t && !decide (t.at_ = g) then [[32]] else []) ++ [t.w])).map bB)] else .exc := by
  have h1 : decide ((acc.map bB).length < LIM) = true := lt_lim (by exact Nat.le_of_lt ha)
  have h2 : ∀ x y : PV, decide (((acc.map bB) ++ [x]).length < LIM) = true := fun x y => by
    have := lim_big; unfold szB at *
    refine decide_eq_true ?_
    simp only [List.length_append, List.length_map, List.length_singleton]; exact chk [_,_] (.h 1 (.a (.v 0) (.n 1)) (.n 10000) (.h 1 (.m 10000 (.n 100)) (.v 1) .z)) 1 (.a (.a (.v 0) (.n 1)) (.n 1)) (.v 1) rfl ha this
  have h3 : decide ((0 : Int) < ((acc.map bB).length : Int)) = !acc.isEmpty := by
    induction acc using List.casesOn with
    | nil => rfl
    | cons x acc => exact decide_eq_true (by simp)
  unfold enc
  rw [b130]
  dsimp only
  rw [is_sign, is_word, h1, h2 (bB [32]) (bB [32]), h3]
  have hpt : br (decide (t.kd = .sign)) = fun x y : Out => if t.kd = .sign then x else y := by
    funext x y
    by_cases q : t.kd = .sign <;> simp [q, br]
  have hw : decide (t.w.toArray = #[46]) = decide (t.w = [46]) := by rw [toA_inj]
  rw [hpt, hw]
  dsimp only
  have key : ∀ ip : Bool, (br (!isWd t) (br (!ip) Out.exc (br (!acc.isEmpty) (br (!ip) (br (!decide (t.at_ = g)) (br true (br true (br ip (k (m130 v (.int (t.at_ + 1)) (some (.str (nmK t.kd))) (some (.bytes t.w.toArray)) (some (.int t.at_)) (some (.bool ip))) [.list ((acc.map bB) ++ [bB [32]] ++ [.bytes t.w.toArray])]) (k (m130 v (.int (-1)) (some (.str (nmK t.kd))) (some (.bytes t.w.toArray)) (some (.int t.at_)) (some (.bool ip))) [.list ((acc.map bB) ++ [bB [32]] ++ [.bytes t.w.toArray])])) .stuck) .stuck) (br true (br ip (k (m130 v (.int (t.at_ + 1)) (some (.str (nmK t.kd))) (some (.bytes t.w.toArray)) (some (.int t.at_)) (some (.bool ip))) [.list ((acc.map bB) ++ [.bytes t.w.toArray])]) (k (m130 v (.int (-1)) (some (.str (nmK t.kd))) (some (.bytes t.w.toArray)) (some (.int t.at_)) (some (.bool ip))) [.list ((acc.map bB) ++ [.bytes t.w.toArray])])) .stuck)) (br true (br ip (k (m130 v (.int (t.at_ + 1)) (some (.str (nmK t.kd))) (some (.bytes t.w.toArray)) (some (.int t.at_)) (some (.bool ip))) [.list ((acc.map bB) ++ [.bytes t.w.toArray])]) (k (m130 v (.int (-1)) (some (.str (nmK t.kd))) (some (.bytes t.w.toArray)) (some (.int t.at_)) (some (.bool ip))) [.list ((acc.map bB) ++ [.bytes t.w.toArray])])) .stuck)) (br true (br ip (k (m130 v (.int (t.at_ + 1)) (some (.str (nmK t.kd))) (some (.bytes t.w.toArray)) (some (.int t.at_)) (some (.bool ip))) [.list ((acc.map bB) ++ [.bytes t.w.toArray])]) (k (m130 v (.int (-1)) (some (.str (nmK t.kd))) (some (.bytes t.w.toArray)) (some (.int t.at_)) (some (.bool ip))) [.list ((acc.map bB) ++ [.bytes t.w.toArray])])) .stuck)))
    (br (!acc.isEmpty) (br (!ip) (br (!decide (t.at_ = g)) (br true (br true (br ip (k (m130 v (.int (t.at_ + 1)) (some (.str (nmK t.kd))) (some (.bytes t.w.toArray)) (some (.int t.at_)) (some (.bool ip))) [.list ((acc.map bB) ++ [bB [32]] ++ [.bytes t.w.toArray])]) (k (m130 v (.int (-1)) (some (.str (nmK t.kd))) (some (.bytes t.w.toArray)) (some (.int t.at_)) (some (.bool ip))) [.list ((acc.map bB) ++ [bB [32]] ++ [.bytes t.w.toArray])])) .stuck) .stuck) (br true (br ip (k (m130 v (.int (t.at_ + 1)) (some (.str (nmK t.kd))) (some (.bytes t.w.toArray)) (some (.int t.at_)) (some (.bool ip))) [.list ((acc.map bB) ++ [.bytes t.w.toArray])]) (k (m130 v (.int (-1)) (some (.str (nmK t.kd))) (some (.bytes t.w.toArray)) (some (.int t.at_)) (some (.bool ip))) [.list ((acc.map bB) ++ [.bytes t.w.toArray])])) .stuck)) (br true (br ip (k (m130 v (.int (t.at_ + 1)) (some (.str (nmK t.kd))) (some (.bytes t.w.toArray)) (some (.int t.at_)) (some (.bool ip))) [.list ((acc.map bB) ++ [.bytes t.w.toArray])]) (k (m130 v (.int (-1)) (some (.str (nmK t.kd))) (some (.bytes t.w.toArray)) (some (.int t.at_)) (some (.bool ip))) [.list ((acc.map bB) ++ [.bytes t.w.toArray])])) .stuck)) (br true (br ip (k (m130 v (.int (t.at_ + 1)) (some (.str (nmK t.kd))) (some (.bytes t.w.toArray)) (some (.int t.at_)) (some (.bool ip))) [.list ((acc.map bB) ++ [.bytes t.w.toArray])]) (k (m130 v (.int (-1)) (some (.str (nmK t.kd))) (some (.bytes t.w.toArray)) (some (.int t.at_)) (some (.bool ip))) [.list ((acc.map bB) ++ [.bytes t.w.toArray])])) .stuck))) =
    if isWd t || ip then k (m130 v (.int (if ip then t.at_ + 1 else -1)) (some (.str (nmK t.kd))) (some (bB t.w)) (some (.int t.at_)) (some (.bool ip))) [.list ((acc ++ ((if !acc.isEmpty && !ip && !decide (t.at_ = g) then [[32]] else []) ++ [t.w])).map bB)] else .exc := by
    intro ip
    skip
    cases ip <;> cases isWd t <;> cases acc.isEmpty <;> cases decide (t.at_ = g) <;> simp [br, bB]
  unfold isPt
  by_cases q : t.kd = .sign
  · rw [if_pos q, decide_eq_true q]; exact key _
  · rw [if_neg q, decide_eq_false q]; exact key _
theorem sz_cons (t : Tok) (ts : List Tok) : sz (t :: ts) = t.w.length + 1 + sz ts := rfl
theorem lp130 (v : PV) (k : KV) : ∀ (ts : List Tok) (acc : List (List UInt8)) (g : Int) (a b c d : Option PV), acc.length + 2 * sz ts ≤ szB → acc.flatten.length + 2 * sz ts ≤ szB →
    forL (ts.map enc) (bF (QX lf pf mf) (kR k) (stAt 18) 2) (m130 v (.int g) a b c d) [.list (acc.map bB)] (pW (QX lf pf mf) (stAt 18) 3 k) =
    match phraseP g (!acc.isEmpty) ts with
    | none => .exc
    | some p => k (bB (acc.flatten ++ p.flatten)) []
  | [], acc, g, a, b, c, d, h1, h2 => by
    show pW _ _ _ _ _ _ = _
    rw [p130, joined (by exact chk [_,_,_] (.h 1 (.a (.v 0) (.m 2 (.v 2))) (.v 1) .z) 1 (.v 0) (.v 1) rfl h2) fun w => k (.bytes w.toArray) []]
    show _ = k (bB (acc.flatten ++ [])) []
    rw [List.append_nil]; rfl
  | t :: ts, acc, g, a, b, c, d, h1, h2 => by
    rw [sz_cons] at h1 h2
    rw [List.map_cons, forL, b130' v g a b c d t acc (by exact chk [_,_,_,_] (.h 1 (.a (.v 0) (.m 2 (.a (.a (.v 2) (.n 1)) (.v 3)))) (.v 1) .z) 1 (.a (.v 0) (.n 1)) (.v 1) rfl h1)]
    unfold phraseP
    cases isWd t || isPt t with
    | false => rfl
    | true =>
      simp only [if_true]
      have e : (acc ++ ((if !acc.isEmpty && !isPt t && !decide (t.at_ = g) then [[32]] else []) ++ [t.w])).isEmpty = false := by simp
      have l1 : (acc ++ ((if !acc.isEmpty && !isPt t && !decide (t.at_ = g) then [[32]] else []) ++ [t.w])).length ≤ acc.length + 2 := by split <;> simp
      have l2 : (acc ++ ((if !acc.isEmpty && !isPt t && !decide (t.at_ = g) then [[32]] else []) ++ [t.w])).flatten.length ≤ acc.flatten.length + 1 + t.w.length := by split <;> simp <;> exact chk [_,_] .z 1 (.a (.v 0) (.a (.v 1) (.n 1))) (.a (.a (.v 0) (.n 1)) (.v 1)) rfl
      rw [lp130 v k ts _ _ _ _ _ _ (by exact chk [_,_,_,_,_] (.h 1 (.a (.v 3) (.m 2 (.a (.a (.v 4) (.n 1)) (.v 1)))) (.v 2) (.h 1 (.v 0) (.a (.v 3) (.n 2)) .z)) 1 (.a (.v 0) (.m 2 (.v 1))) (.v 2) rfl h1 l1) (by exact chk [_,_,_,_,_] (.h 1 (.a (.v 3) (.m 2 (.a (.a (.v 4) (.n 1)) (.v 1)))) (.v 2) (.h 1 (.v 0) (.a (.a (.v 3) (.n 1)) (.v 4)) .z)) 1 (.a (.v 0) (.m 2 (.v 1))) (.v 2) rfl h2 l2), e, Bool.not_false]
      induction phraseP (if isPt t then t.at_ + 1 else -1) true ts using Option.casesOn with
      | none => rfl
      | some p => simp
noncomputable def S130 (pf : PF) : Prop := ∀ (ts : List Tok) (κ : KV), 2 * sz ts ≤ szB → pf 130 [.lst (ts.map enc)] κ =
  match phraseP 0 false (ts.filter notC) with
  | none => .exc
  | some p => κ (bB p.flatten) []
theorem sz_filter (p : Tok → Bool) : ∀ ts, sz (ts.filter p) ≤ sz ts
  | [] => Nat.le_refl _
  | t :: ts => by
    rw [List.filter_cons]
    have := sz_filter p ts
    split <;> simp only [sz_cons] <;> (first | exact chk [_,_,_] (.h 1 (.v 1) (.v 2) .z) 1 (.a (.a (.v 0) (.n 1)) (.v 1)) (.a (.a (.v 0) (.n 1)) (.v 2)) rfl this | exact chk [_,_,_] (.h 1 (.v 0) (.v 2) .z) 1 (.v 0) (.a (.a (.v 1) (.n 1)) (.v 2)) rfl this)
theorem s130 (h123 : S123 pf) : S130 (SXO lf pf mf).pf := fun ts κ h => by
  rw [eq130, h123]
  have := sz_filter notC ts
  exact lp130 _ κ (ts.filter notC) [] 0 none none none none (by simp; exact chk [_,_,_] (.h 1 (.m 2 (.v 2)) (.v 1) (.h 2 (.v 0) (.v 2) .z)) 1 (.m 2 (.v 0)) (.v 1) rfl h this) (by simp; exact chk [_,_,_] (.h 1 (.m 2 (.v 2)) (.v 1) (.h 2 (.v 0) (.v 2) .z)) 1 (.m 2 (.v 0)) (.v 1) rfl h this)

/- 137 escaped_octets, 144 quoted_string -/
noncomputable abbrev m137 (d s : Array UInt8) (a : Option PV) : Loc := [some (.bytes d), some (.bytes s), some (.cell 0), a, none, none, none, none]
theorem eq137 (d s : Array UInt8) (k : KV) : (SXO lf pf mf).pf 137 [.bytes d, .bytes s] k = br (decide (d.size ≤ LIM)) (forL ((List.range d.size).map fun (i : Nat) => .int i) (bF (QX lf pf mf) (kR k) (stAt 19) 1) (m137 d s none) [.list []] (pW (QX lf pf mf) (stAt 19) 2 k)) .stuck := by kernel_rfl
theorem b137 (d s : Array UInt8) (a : Option PV) (i : Int) (l : List PV) (κ : KV) (k : KS) : bF (QX lf pf mf) (kR κ) (stAt 19) 1 (.int i) (m137 d s a) [.list l] k =
  (let r := fun l : List PV => br (decide (l.length < LIM)) (k (m137 d s (some (.int i))) [.list (l ++ [.bytes (bSlice d (some i) (some (i + 1)))])]) .stuck
   opt (bIdx d i) fun c => br (anyInt c [0, 10, 13]) .exc (opt (bIdx d i) fun c => opt (pvIn (.int c) (.bytes s)) fun q => br q (br (decide (l.length < LIM)) (r (l ++ [bB [92]])) .stuck) (r l))) := by kernel_rfl
theorem p137 (d s : Array UInt8) (a : Option PV) (l : List PV) (k : KV) : pW (QX lf pf mf) (stAt 19) 2 k (m137 d s a) [.list l] = opt (bytesOf l) fun bs => br (jFit 0 (bs.map (·.size))) (k (.bytes (bJoin [] bs).toArray) []) .stuck := by kernel_rfl
noncomputable def escP (s : List UInt8) (l : List UInt8) : List UInt8 := l.flatMap fun x => if s.contains x then [92, x] else [x]
theorem escP_nil (s : List UInt8) : escP s [] = [] := rfl
theorem escP_cons (s : List UInt8) (x : UInt8) (l : List UInt8) : escP s (x :: l) = (if s.contains x then [92, x] else [x]) ++ escP s l := by simp [escP]
noncomputable def S137 (pf : PF) : Prop := ∀ (l s : List UInt8) (κ : KV), 2 * l.length ≤ szB → pf 137 [bB l, bB s] κ = if l.any never then .exc else κ (bB (escP s l)) []
theorem lp137 (s : List UInt8) {l : List UInt8} (k : KV) : ∀ (r : List UInt8) (a : Option PV) (acc : List (List UInt8)), r <:+ l → acc.length + 2 * r.length ≤ szB → acc.flatten.length + 2 * r.length ≤ szB →
    forL ((List.range' (l.length - r.length) r.length).map fun (i : Nat) => .int i) (bF (QX lf pf mf) (kR k) (stAt 19) 1) (m137 l.toArray s.toArray a) [.list (acc.map bB)] (pW (QX lf pf mf) (stAt 19) 2 k) =
    if r.any never then .exc else k (bB (acc.flatten ++ escP s r)) []
  | [], a, acc, sf, h1, h2 => by
    show pW _ _ _ _ _ _ = _
    rw [p137, joined (by exact chk [_,_,_] (.h 1 (.a (.v 0) (.m 2 (.v 2))) (.v 1) .z) 1 (.v 0) (.v 1) rfl h2) fun w => k (.bytes w.toArray) [], escP_nil, List.append_nil]
    rfl
  | c :: r, a, acc, sf, h1, h2 => by
    simp only [List.length_cons] at h1 h2
    have hl := sf.length_le
    simp only [List.length_cons] at hl
    have e : ((l.length - (c :: r).length : Nat) : Int) = po l (c :: r) := by unfold po; simp only [List.length_cons]; omega
    have e2 : l.length - (c :: r).length + 1 = l.length - r.length := by simp only [List.length_cons]; omega
    rw [List.length_cons, List.range'_succ, List.map_cons, forL, ← List.length_cons (a := c), e, e2, b137, ix_at sf, opt_s, never_any]
    dsimp only
    rw [opt_s, in_bytes, opt_s, sl_at1 sf, List.any_cons]
    have h1' : decide ((acc.map bB).length < LIM) = true := lt_lim (by exact chk [_,_,_] (.h 1 (.a (.v 0) (.m 2 (.a (.v 2) (.n 1)))) (.v 1) .z) 1 (.v 0) (.v 1) rfl h1)
    have h2' : ∀ x : PV, decide (((acc.map bB) ++ [x]).length < LIM) = true := fun x => by
      have := lim_big; unfold szB at *
      refine decide_eq_true ?_
      simp only [List.length_append, List.length_map, List.length_singleton]; exact chk [_,_,_] (.h 1 (.a (.v 0) (.m 2 (.a (.v 2) (.n 1)))) (.n 10000) (.h 1 (.m 10000 (.n 100)) (.v 1) .z)) 1 (.a (.a (.v 0) (.n 1)) (.n 1)) (.v 1) rfl h1 this
    rw [h1', h2']
    induction never c using Bool.casesOn with
    | true => rfl
    | false =>
      rw [Bool.false_or, escP_cons]
      induction hc : s.contains c using Bool.casesOn with
      | true =>
        skip
        have := lp137 s k r (some (.int (po l (c :: r)))) (acc ++ [[92], [c]]) (suf_tail sf) (by simp; exact chk [_,_,_] (.h 1 (.a (.v 0) (.m 2 (.a (.v 1) (.n 1)))) (.v 2) .z) 1 (.a (.a (.v 0) (.n 2)) (.m 2 (.v 1))) (.v 2) rfl h1) (by simp only [List.flatten_append, List.length_append, List.flatten_cons, List.flatten_nil, List.length_cons, List.length_nil]; exact chk [_,_,_] (.h 1 (.a (.v 0) (.m 2 (.a (.v 1) (.n 1)))) (.v 2) .z) 1 (.a (.a (.v 0) (.a (.a (.n 0) (.n 1)) (.a (.a (.n 0) (.n 1)) (.n 0)))) (.m 2 (.v 1))) (.v 2) rfl h2)
        rw [List.map_append] at this
        have e3 : (acc.map bB) ++ [bB [92]] ++ [PV.bytes (List.take 1 (c :: r)).toArray] = (acc.map bB) ++ [[92], [c]].map bB := by simp [bB]
        rw [e3]
        refine Eq.trans this ?_
        simp
      | false =>
        skip
        have := lp137 s k r (some (.int (po l (c :: r)))) (acc ++ [[c]]) (suf_tail sf) (by simp; exact chk [_,_,_] (.h 1 (.a (.v 0) (.m 2 (.a (.v 1) (.n 1)))) (.v 2) .z) 1 (.a (.a (.v 0) (.n 1)) (.m 2 (.v 1))) (.v 2) rfl h1) (by simp only [List.flatten_append, List.length_append, List.flatten_cons, List.flatten_nil, List.length_cons, List.length_nil]; exact chk [_,_,_] (.h 1 (.a (.v 0) (.m 2 (.a (.v 1) (.n 1)))) (.v 2) .z) 1 (.a (.a (.v 0) (.a (.a (.n 0) (.n 1)) (.n 0))) (.m 2 (.v 1))) (.v 2) rfl h2)
        rw [List.map_append] at this
        refine Eq.trans this ?_
        simp
theorem s137 : S137 (SXO lf pf mf).pf := fun l s κ h => by
  unfold bB
  have hz : l.toArray.size = l.length := by simp
  have : decide (l.length ≤ LIM) = true := decide_eq_true (by have := lim_big; exact chk [_,_,_] (.h 1 (.m 2 (.v 0)) (.v 2) (.h 1 (.r (.v 2) 100) (.v 1) .z)) 1 (.v 0) (.v 1) rfl h this)
  rw [eq137, hz, this]
  have := lp137 (lf := lf) (pf := pf) (mf := mf) s κ l none [] (List.suffix_refl _) (by simp; exact h) (by simp; exact h)
  rw [Nat.sub_self, ← List.range_eq_range'] at this
  exact this
theorem eq144 (d : Array UInt8) (k : KV) : (SXO lf pf mf).pf 144 [.bytes d] k = pf 137 [.bytes d, bB [34, 92]] (fun v fr => retK [] v fr fun b σ => binop .Add (bB [34]) b fun v => binop .Add v (bB [34]) fun v => frz v σ k) := by kernel_rfl
theorem add_b (a b : List UInt8) (h : a.length + b.length ≤ LIM) (k : PV → Out) : binop .Add (bB a) (bB b) k = k (bB (a ++ b)) := by
  show br (decide (a.toArray.size + b.toArray.size ≤ LIM)) (k (.bytes (a.toArray ++ b.toArray))) .stuck = _
  rw [decide_eq_true (by simpa using h), br_t]
  simp [bB]
theorem escP_len (s : List UInt8) : ∀ l, (escP s l).length ≤ 2 * l.length
  | [] => Nat.le_refl _
  | x :: l => by
    have := escP_len s l
    rw [escP_cons]
    split <;> simp <;> (first | exact chk [_,_] (.h 1 (.v 0) (.m 2 (.v 1)) .z) 1 (.a (.a (.v 0) (.n 1)) (.n 1)) (.m 2 (.a (.v 1) (.n 1))) rfl this | exact chk [_,_] (.h 1 (.v 0) (.m 2 (.v 1)) .z) 1 (.a (.v 0) (.n 1)) (.m 2 (.a (.v 1) (.n 1))) rfl this)
noncomputable def quoP (l : List UInt8) : List UInt8 := 34 :: escP [34, 92] l ++ [34]
noncomputable def S144 (pf : PF) : Prop := ∀ (l : List UInt8) (κ : KV), 2 * l.length ≤ szB → pf 144 [bB l] κ = if l.any never then .exc else κ (bB (quoP l)) []
theorem s144 (h137 : S137 pf) : S144 (SXO lf pf mf).pf := fun l κ h => by
  have := lim_big
  have : 1 ≤ szB := by decide
  have hl := escP_len [34, 92] l
  have q := h137 l [34, 92]
  unfold bB at q ⊢
  rw [eq144]
  unfold bB
  rw [q _ h]
  induction l.any never using Bool.casesOn with
  | true => rfl
  | false =>
    skip
    show binop .Add (bB [34]) (bB (escP [34, 92] l)) (fun v => binop .Add v (bB [34]) fun v => frz v [] κ) = _
    rw [add_b _ _ (by simp; exact chk [_,_,_,_] (.h 1 (.m 2 (.v 2)) (.v 3) (.h 1 (.r (.v 3) 100) (.v 1) (.h 1 (.n 1) (.v 3) (.h 1 (.v 0) (.m 2 (.v 2)) .z)))) 1 (.a (.n 1) (.v 0)) (.v 1) rfl h (by assumption) this hl)]
    rw [add_b _ _ (by simp; exact chk [_,_,_,_] (.h 1 (.m 2 (.v 2)) (.v 3) (.h 1 (.r (.v 3) 100) (.v 1) (.h 2 (.n 1) (.v 3) (.h 1 (.v 0) (.m 2 (.v 2)) .z)))) 1 (.a (.a (.v 0) (.n 1)) (.n 1)) (.v 1) rfl h (by assumption) this hl)]
    rfl

/- 151 is_atom -/
theorem eq151 (d : Array UInt8) (k : KV) : (SXO lf pf mf).pf 151 [.bytes d] k = br (decide ((0 : Int) < d.size)) (pf 97 [.bytes d, .int 0] (fun v fr => retK [] v fr fun v σ => sub σ v (.int 1) fun a => opt (cmp σ .Eq a (.int d.size)) fun c => k (.bool c) [])) (k (.bool false) []) := by kernel_rfl
noncomputable def isAt (l : List UInt8) : Bool := !l.isEmpty && l.all isA
noncomputable def S151 (pf : PF) : Prop := ∀ (l : List UInt8) (κ : KV), l.length ≤ szB → pf 151 [bB l] κ = κ (.bool (isAt l)) []
theorem drop_all (p : UInt8 → Bool) : ∀ l : List UInt8, (l.dropWhile p = [] ↔ l.all p = true)
  | [] => by simp
  | x :: l => by
    rw [List.dropWhile_cons, List.all_cons]
    have := drop_all p l
    cases p x <;> simp [this]
theorem s151 (h97 : S97 pf) : S151 (SXO lf pf mf).pf := fun l κ h => by
  have q := h97 l l
  rw [po_self] at q
  have hz : ((l.toArray.size : Int)) = l.length := by simp
  unfold bB at q ⊢
  rw [eq151, hz, q _ h (List.suffix_refl _)]
  unfold isAt
  induction l using List.casesOn with
  | nil => rfl
  | cons x l =>
    rw [show decide ((0 : Int) < ((x :: l).length : Int)) = true from decide_eq_true (by simp)]
    show κ (.bool (decide (po (x :: l) ((x :: l).dropWhile isA) = ((x :: l).length : Int)))) [] = _
    have : decide (po (x :: l) ((x :: l).dropWhile isA) = ((x :: l).length : Int)) = (x :: l).all isA := by
      have d := drop_all isA (x :: l)
      by_cases e : (x :: l).dropWhile isA = []
      · rw [d.mp e, e]; unfold po; simp
      · have e' : ¬ (x :: l).all isA = true := fun z => e (d.mpr z)
        rw [Bool.not_eq_true] at e'
        rw [e']
        refine decide_eq_false fun z => e ?_
        unfold po at z
        exact List.length_eq_zero_iff.mp (by omega)
    rw [this]; rfl
end Mine
end
section
set_option maxRecDepth 100000
namespace Mine
open PySem
variable {lf : Nat} {pf : PF} {mf : MF}

/- 210 sign_text, 215 sign_octets -/
noncomputable def sS (t : List Nat) : Str := ⟨t.toArray⟩
noncomputable def tx (l : List UInt8) : Str := sS (l.map UInt8.toNat)
noncomputable def oc (t : List Nat) : List UInt8 := t.map UInt8.ofNat
theorem eq210 (d : Array UInt8) (k : KV) : (SXO lf pf mf).pf 210 [.bytes d] k = compL (d.toList.map fun c => .int c.toNat) (cF (QX lf pf mf) 56 (argE (retE (stAt 25) 0))) [] fun ys σ => opt (strsOf ys) fun bs => br (jFit 0 (bs.map (·.length))) (k (.str ⟨(sJoin [] bs).toArray⟩) []) .stuck := by kernel_rfl
theorem c210 (i : Int) (k' : Option PV → List Cell → Out) : cF (QX lf pf mf) 56 (argE (retE (stAt 25) 0)) (.int i) [] k' = br (okCode i) (k' (some (.str ⟨#[i.toNat]⟩)) []) .stuck := by kernel_rfl
noncomputable def one (c : Nat) : Str := ⟨#[c]⟩
theorem strsOf_map : ∀ l : List Str, strsOf (l.map .str) = some l
  | [] => rfl
  | x :: l => by
    show (match strsOf (l.map .str) with
    | some q => some (x :: q)
    | .none => .none) = _
    rw [strsOf_map l]
theorem sJoin_one : ∀ l : List Nat, sJoin [] (l.map one) = l
  | [] => rfl
  | [x] => rfl
  | x :: y :: l => by
    have := sJoin_one (y :: l)
    show (one x).cps.toList ++ [] ++ sJoin [] ((y :: l).map one) = _
    rw [this]; rfl
theorem one_len : ∀ l : List Nat, ((l.map one).map (·.length)).sum = l.length
  | [] => rfl
  | x :: l => by
    rw [List.map_cons, List.map_cons, List.sum_cons, one_len l]
    exact Nat.le_antisymm (chk [_] .z 1 (.a (.n 1) (.v 0)) (.a (.v 0) (.n 1)) rfl) (chk [_] .z 1 (.a (.v 0) (.n 1)) (.a (.n 1) (.v 0)) rfl)
noncomputable def S210 (pf : PF) : Prop := ∀ (l : List UInt8) (κ : KV), l.length ≤ szB → pf 210 [bB l] κ = κ (.str (tx l)) []
theorem s210 : S210 (SXO lf pf mf).pf := fun l κ h => by
  unfold bB
  rw [eq210]
  have hl := lim_big
  have hf := compL_fm (f := cF (QX lf pf mf) 56 (argE (retE (stAt 25) 0))) (en := fun c : UInt8 => .int (c.toNat : Int)) (g := fun c => some (.str (one c.toNat))) (σ := []) l (fun c ζ k' => by
    rw [c210]
    have := c.toNat_lt
    have : okCode (c.toNat : Int) = true := by unfold okCode; rw [decide_eq_true (by omega), decide_eq_true (by omega)]; rfl
    rw [this]; rfl)
  show compL (l.map fun c : UInt8 => .int (c.toNat : Int)) _ _ _ = _
  rw [hf]
  have : l.filterMap (fun c => some (PV.str (one c.toNat))) = ((l.map UInt8.toNat).map one).map .str := by simp
  rw [this, strsOf_map, opt_s, jFit_ok, sJoin_one]
  · rfl
  · rw [one_len, Nat.mul_zero]; simp; exact chk [_,_,_] (.h 1 (.v 0) (.v 2) (.h 1 (.r (.v 2) 100) (.v 1) .z)) 1 (.v 0) (.v 1) rfl h hl

noncomputable abbrev m215 (s : PV) (a : Option PV) : Loc := [some s, a, none, none, none, none, none]
theorem eq215 (s : Str) (k : KV) : (SXO lf pf mf).pf 215 [.str s] k = br (decide (s.length ≤ LIM)) (forL ((List.range s.length).map fun (i : Nat) => .int i) (bF (QX lf pf mf) (kR k) (stAt 26) 0) (m215 (.str s) none) [] (pW (QX lf pf mf) (stAt 26) 1 k)) .stuck := by kernel_rfl
theorem b215 (s : Str) (a : Option PV) (i : Int) (κ : KV) (k : KS) : bF (QX lf pf mf) (kR κ) (stAt 26) 0 (.int i) (m215 (.str s) a) [] k = opt (lIdx s.cps.toList i) fun c => br (decide ((255 : Int) < (c : Int))) .exc (k (m215 (.str s) (some (.int i))) []) := by kernel_rfl
theorem p215 (s : Str) (a : Option PV) (k : KV) : pW (QX lf pf mf) (stAt 26) 1 k (m215 (.str s) a) [] = compL (s.cps.toList.map fun c => .str ⟨#[c]⟩) (cF (QX lf pf mf) 55 (argE (retE (stAt 26) 1))) [] fun ys σ => opt (intsOf ys) fun l => br (l.all fun i => decide (0 ≤ i) && decide (i < 256)) (k (.bytes (l.map fun i => i.toNat.toUInt8).toArray) []) .stuck := by kernel_rfl
theorem c215 (c : Nat) (k' : Option PV → List Cell → Out) : cF (QX lf pf mf) 55 (argE (retE (stAt 26) 1)) (.str ⟨#[c]⟩) [] k' = k' (some (.int (c : Int))) [] := by kernel_rfl
theorem intsOf_map : ∀ l : List Int, intsOf (l.map .int) = some l
  | [] => rfl
  | x :: l => by
    show (match intsOf (l.map .int) with
    | some q => some (x :: q)
    | .none => .none) = _
    rw [intsOf_map l]
noncomputable def oct (t : List Nat) : Bool := t.all fun c => decide (c ≤ 255)
theorem bytes_all : ∀ {t : List Nat}, oct t = true → ((t.map fun c : Nat => (c : Int)).all fun i => decide (0 ≤ i) && decide (i < 256)) = true
  | [], _ => rfl
  | c :: t, h => by
    simp only [oct, List.all_cons, Bool.and_eq_true, decide_eq_true_eq] at h
    rw [List.map_cons, List.all_cons, bytes_all h.2, decide_eq_true (by omega), decide_eq_true (by omega)]; rfl
theorem bytes_map (t : List Nat) : ((t.map fun c : Nat => (c : Int)).map fun i => i.toNat.toUInt8) = oc t := by
  rw [List.map_map]; rfl
noncomputable def S215 (pf : PF) : Prop := ∀ (t : List Nat) (κ : KV), t.length ≤ szB → pf 215 [.str (sS t)] κ = if oct t then κ (bB (oc t)) [] else .exc
theorem lp215 {t : List Nat} (κ : KV) : ∀ (r : List Nat) (a : Option PV), r <:+ t →
    forL ((List.range' (t.length - r.length) r.length).map fun (i : Nat) => .int i) (bF (QX lf pf mf) (kR κ) (stAt 26) 0) (m215 (.str (sS t)) a) [] (pW (QX lf pf mf) (stAt 26) 1 κ) =
    if oct r then pW (QX lf pf mf) (stAt 26) 1 κ (m215 (.str (sS t)) none) [] else .exc
  | [], a, s => by
    show pW _ _ _ _ _ _ = _
    skip; rfl
  | c :: r, a, s => by
    have hl := s.length_le
    simp only [List.length_cons] at hl
    have e : ((t.length - (c :: r).length : Nat) : Int) = po t (c :: r) := by unfold po; simp only [List.length_cons]; omega
    have e2 : t.length - (c :: r).length + 1 = t.length - r.length := by simp only [List.length_cons]; omega
    rw [List.length_cons, List.range'_succ, List.map_cons, forL, ← List.length_cons (a := c), e, e2, b215]
    rw [show (sS t).cps.toList = t from rfl, lix_at s, opt_s]
    have e3 : oct (c :: r) = (decide (c ≤ 255) && oct r) := rfl
    rw [e3]
    by_cases h : c ≤ 255
    · rw [decide_eq_true h, show decide ((255 : Int) < (c : Int)) = false from decide_eq_false (by omega)]
      exact lp215 κ r _ (suf_tail s)
    · rw [decide_eq_false h, show decide ((255 : Int) < (c : Int)) = true from decide_eq_true (by omega)]; rfl
theorem s215 : S215 (SXO lf pf mf).pf := fun t κ h => by
  have hl := lim_big
  have : decide ((sS t).length ≤ LIM) = true := decide_eq_true (by show t.toArray.size ≤ LIM; simp; exact chk [_,_,_] (.h 1 (.v 0) (.v 2) (.h 1 (.r (.v 2) 100) (.v 1) .z)) 1 (.v 0) (.v 1) rfl h hl)
  rw [eq215, this]
  have := lp215 (lf := lf) (pf := pf) (mf := mf) κ t none (List.suffix_refl _)
  rw [Nat.sub_self, ← List.range_eq_range'] at this
  skip
  refine this.trans ?_
  induction ho : oct t using Bool.casesOn with
  | false => rfl
  | true =>
    rw [p215]
    show compL (t.map fun c => .str ⟨#[c]⟩) _ _ _ = _
    rw [compL_fm (g := fun c : Nat => some (.int (c : Int))) t fun c ζ k' => c215 c k']
    have : t.filterMap (fun c : Nat => some (PV.int (c : Int))) = (t.map fun c : Nat => (c : Int)).map .int := by simp
    rw [this, intsOf_map, opt_s, bytes_all ho, bytes_map]; rfl

/- 346 is_dotted -/
theorem eq346 (d : Array UInt8) (k : KV) : (SXO lf pf mf).pf 346 [.bytes d] k = br (decide (d.size < LIM)) (compL ((splitAt1 (fun y => y == 46) d.toList).map fun w => .bytes w.toArray) (cF (QX lf pf mf) 57 (cmpL (retE (stAt 35) 0))) [] fun ys σ => opt (cmp (σ ++ [.list []]) .Eq (.lst ys) (.cell σ.length)) fun c => k (.bool c) []) .stuck := by kernel_rfl
theorem c346 (d : Array UInt8) (k' : Option PV → List Cell → Out) : cF (QX lf pf mf) 57 (cmpL (retE (stAt 35) 0)) (.bytes d) [] k' = pf 151 [.bytes d] (bK [] fun c σ => br (!c) (k' (some (.bytes d)) σ) (k' none σ)) := by kernel_rfl
theorem eq_nil (ys : List PV) : cmp ([] ++ [.list []]) .Eq (.lst ys) (.cell ([] : List Cell).length) = some ys.isEmpty := by
  induction ys using List.casesOn with
  | nil => rfl
  | cons y ys =>
    show (match decide (ys.length + 1 = 0) with
      | true => tAll (tEq 8) (y :: ys) []
      | false => some false) = _
    rw [decide_eq_false (by omega)]; rfl
theorem fm_empty {β : Type} (p : β → Bool) (en : β → PV) : ∀ l : List β, (l.filterMap fun x => if p x then none else some (en x)).isEmpty = l.all p
  | [] => rfl
  | x :: l => by
    rw [List.filterMap_cons, List.all_cons]
    have := fm_empty p en l
    induction p x using Bool.casesOn with
    | true => simpa using this
    | false => rfl
set_option tactic.hygienic true in
theorem split_len {α : Type} (p : α → Bool) : ∀ (l : List α), ∀ w ∈ splitAt1 p l, w.length ≤ l.length
  | [], w, h => by simp [splitAt1] at h; subst h; simp
  | c :: r, w, h => by
    have ih := split_len p r
    unfold splitAt1 at h
    split at h
    · cases h with
      | head => simp
      | tail _ h => have := ih w h; simp; exact Nat.le_succ_of_le this
    · split at h
      · simp at h; subst h; simp
      · rename_i x xs e
        rw [e] at ih
        cases h with
        | head => have := ih x (.head _); simp; exact this
        | tail _ h => have := ih w (.tail _ h); simp; exact Nat.le_succ_of_le this
noncomputable def dotP (l : List UInt8) : Bool := (splitAt1 (fun y => y == 46) l).all isAt
noncomputable def S346 (pf : PF) : Prop := ∀ (l : List UInt8) (κ : KV), l.length ≤ szB → pf 346 [bB l] κ = κ (.bool (dotP l)) []
theorem s346 (h151 : S151 pf) : S346 (SXO lf pf mf).pf := fun l κ h => by
  have hl := lim_big
  have h0 : 1 ≤ szB := by decide
  unfold bB
  rw [eq346, decide_eq_true (by simp; exact chk [_,_,_] (.h 1 (.v 0) (.v 2) (.h 1 (.r (.v 2) 100) (.v 1) (.h 1 (.n 1) (.v 2) .z))) 1 (.a (.v 0) (.n 1)) (.v 1) rfl h hl h0)]
  show compL ((splitAt1 (fun y => y == 46) l).map fun w => .bytes w.toArray) _ _ _ = _
  rw [compL_fm (g := fun w : List UInt8 => if isAt w then none else some (.bytes w.toArray)) _ fun w hw k' => ?_]
  · rw [eq_nil, fm_empty]; rfl
  · have := h151 w
    unfold bB at this
    have hw := split_len _ _ w hw
    rw [c346, this _ (by exact Nat.le_trans hw h)]
    show br (!isAt w) _ _ = _
    cases isAt w <;> rfl
end Mine
end
section
set_option maxRecDepth 100000
namespace Mine
open PySem
variable {lf : Nat} {pf : PF} {mf : MF}
noncomputable def ifTest (st : Stmt) (i : Nat) : PySem.Expr := match (fBody st)[i]? with
  | some (.If t _ _ _) => t
  | _ => .Constant .none 0 ⟨0, 0, 0, 0⟩

/- 351 phrase_octets -/
theorem eq351 (s : Str) (k : KV) : (SXO lf pf mf).pf 351 [.str s] k = pf 215 [.str s] (pA (QX lf pf mf) (stAt 36) 0 k [some (.str s), none, none, none] []) := by kernel_rfl
theorem a351 (s : Str) (d : Array UInt8) (k : KV) : pA (QX lf pf mf) (stAt 36) 0 k [some (.str s), none, none, none] [] (.bytes d) [] =
  br (decide (d.size < LIM)) (compL ((splitAt1 (fun y => y == 32) d.toList).map fun w => .bytes w.toArray) (cF (QX lf pf mf) 56 (cmpL (ifTest (stAt 36) 1))) [] fun ys σ => opt (cmp (σ ++ [.list []]) .Eq (.lst ys) (.cell σ.length)) fun c => br c (k (.bytes d) []) (br (noExc (σ ++ [.list []])) (pf 144 [.bytes d] fun v fr => retK (σ ++ [.list []]) v fr fun v σ => frz v σ k) .stuck)) .stuck := by kernel_rfl
theorem c351 (d : Array UInt8) (k' : Option PV → List Cell → Out) : cF (QX lf pf mf) 56 (cmpL (ifTest (stAt 36) 1)) (.bytes d) [] k' = pf 151 [.bytes d] (bK [] fun c σ => br (!c) (k' (some (.bytes d)) σ) (k' none σ)) := by kernel_rfl
noncomputable def spcP (l : List UInt8) : Bool := (splitAt1 (fun y => y == 32) l).all isAt
/- the octets of a text that is bare or stands in quotes -/
noncomputable def orQ (b : Bool) (l : List UInt8) (κ : KV) : Out := if b then κ (bB l) [] else if l.any never then .exc else κ (bB (quoP l)) []
noncomputable def S351 (pf : PF) : Prop := ∀ (t : List Nat) (κ : KV), 2 * t.length ≤ szB → pf 351 [.str (sS t)] κ = if oct t then orQ (spcP (oc t)) (oc t) κ else .exc
theorem oc_len (t : List Nat) : (oc t).length = t.length := by simp [oc]
theorem s351 (h215 : S215 pf) (h151 : S151 pf) (h144 : S144 pf) : S351 (SXO lf pf mf).pf := fun t κ h => by
  have hl := lim_big
  have h0 : 1 ≤ szB := by decide
  have ho := oc_len t
  rw [eq351, h215 t _ (by exact chk [_,_] (.h 1 (.m 2 (.v 0)) (.v 1) .z) 1 (.v 0) (.v 1) rfl h)]
  induction oct t using Bool.casesOn with
  | false => rfl
  | true =>
    rw [if_pos rfl, if_pos rfl, bB, a351, decide_eq_true (by simp; exact chk [_,_,_,_] (.h 1 (.m 2 (.v 2)) (.v 3) (.h 1 (.r (.v 3) 100) (.v 1) (.h 1 (.n 1) (.v 3) (.h 1 (.v 0) (.v 2) .z)))) 1 (.a (.v 0) (.n 1)) (.v 1) rfl h hl h0 (Nat.le_of_eq ho)), br_t]
    show compL ((splitAt1 (fun y => y == 32) (oc t)).map fun w => .bytes w.toArray) _ _ _ = _
    rw [compL_fm (g := fun w : List UInt8 => if isAt w then none else some (.bytes w.toArray)) _ fun w hw k' => ?_]
    · rw [eq_nil, opt_s, fm_empty]
      have q := h144 (oc t)
      unfold bB at q
      rw [q _ (by exact chk [_,_,_] (.h 1 (.m 2 (.v 2)) (.v 1) (.h 2 (.v 0) (.v 2) .z)) 1 (.m 2 (.v 0)) (.v 1) rfl h (Nat.le_of_eq ho))]
      show br (spcP (oc t)) _ _ = _
      unfold orQ
      induction spcP (oc t) using Bool.casesOn with
      | true => rfl
      | false =>
        rw [br_f, if_neg Bool.false_ne_true]
        cases (oc t).any never <;> rfl
    · have := h151 w
      unfold bB at this
      have hw := split_len _ _ w hw
      rw [c351, this _ (by exact chk [_,_,_,_] (.h 1 (.m 2 (.v 2)) (.v 1) (.h 1 (.v 3) (.v 2) (.h 1 (.v 0) (.v 3) .z))) 1 (.v 0) (.v 1) rfl h (Nat.le_of_eq ho) hw)]
      show br (!isAt w) _ _ = _
      cases isAt w <;> rfl

/- 358 local_octets -/
theorem eq358 (s : Str) (k : KV) : (SXO lf pf mf).pf 358 [.str s] k = pf 215 [.str s] (pA (QX lf pf mf) (stAt 37) 0 k [some (.str s), none, none, none, none] []) := by kernel_rfl
theorem a358 (s : Str) (d : Array UInt8) (k : KV) : pA (QX lf pf mf) (stAt 37) 0 k [some (.str s), none, none, none, none] [] (.bytes d) [] =
  pf 346 [.bytes d] (bK [] fun c σ => br c (frz (.bytes d) σ k) (br (noExc σ) (pf 144 [.bytes d] fun v fr => retK σ v fr fun v σ => frz v σ k) .stuck)) := by kernel_rfl
noncomputable def S358 (pf : PF) : Prop := ∀ (t : List Nat) (κ : KV), 2 * t.length ≤ szB → pf 358 [.str (sS t)] κ = if oct t then orQ (dotP (oc t)) (oc t) κ else .exc
theorem s358 (h215 : S215 pf) (h346 : S346 pf) (h144 : S144 pf) : S358 (SXO lf pf mf).pf := fun t κ h => by
  have ho := oc_len t
  rw [eq358, h215 t _ (by exact chk [_,_] (.h 1 (.m 2 (.v 0)) (.v 1) .z) 1 (.v 0) (.v 1) rfl h)]
  induction oct t using Bool.casesOn with
  | false => rfl
  | true =>
    have q := h346 (oc t)
    have q2 := h144 (oc t)
    unfold bB at q q2
    rw [if_pos rfl, if_pos rfl, bB, a358, q _ (by exact chk [_,_,_] (.h 1 (.m 2 (.v 2)) (.v 1) (.h 1 (.v 0) (.v 2) .z)) 1 (.v 0) (.v 1) rfl h (Nat.le_of_eq ho))]
    show br (dotP (oc t)) _ _ = _
    unfold orQ
    induction dotP (oc t) using Bool.casesOn with
    | true => rfl
    | false =>
      rw [br_f, if_neg Bool.false_ne_true]
      show pf 144 [.bytes (oc t).toArray] (fun v fr => retK [] v fr fun v σ => frz v σ κ) = _
      rw [q2 _ (by exact chk [_,_,_] (.h 1 (.m 2 (.v 2)) (.v 1) (.h 2 (.v 0) (.v 2) .z)) 1 (.m 2 (.v 0)) (.v 1) rfl h (Nat.le_of_eq ho))]
      cases (oc t).any never <;> rfl

/- 372 mailbox_octets -/
noncomputable abbrev mbx (a b c : PV) : PV := .obj 175 [sOf "name", sOf "local", sOf "domain"] [a, b, c]
theorem eq372 (a b c : Str) (k : KV) : (SXO lf pf mf).pf 372 [mbx (.str a) (.str b) (.str c)] k =
  pf 358 [.str b] fun v fr => retK [] v fr fun x σ => binop .Add x (bB [64]) fun x => br (noExc σ) (pf 365 [.str c] fun v fr => retK σ v fr fun y σ => binop .Add x y fun v => pW (QX lf pf mf) (stAt 39) 1 k [some (mbx (.str a) (.str b) (.str c)), some v, none, none, none] σ) .stuck := by kernel_rfl
theorem p372 (a b c : Str) (d : Array UInt8) (k : KV) : pW (QX lf pf mf) (stAt 39) 1 k [some (mbx (.str a) (.str b) (.str c)), some (.bytes d), none, none, none] [] =
  br (decide (a = sOf "")) (k (.bytes d) []) (pf 351 [.str a] fun v fr => retK [] v fr fun x σ => binop .Add x (bB [32, 60]) fun x => binop .Add x (.bytes d) fun x => binop .Add x (bB [62]) fun v => frz v σ k) := by kernel_rfl
/- the three domains and the one of the check for faults -/
noncomputable def domS : Nat → List Nat
  | 0 => [120, 46, 111, 114, 103]
  | 1 => [91, 49, 46, 50, 93]
  | _ => [100]
noncomputable def domB (i : Nat) : List UInt8 := oc (domS i)
noncomputable def S365 (pf : PF) : Prop := ∀ (i : Nat) (κ : KV), pf 365 [.str (sS (domS i))] κ = κ (bB (domB i)) []
/- what mailbox_octets tells of a local's octets and a name's -/
noncomputable def mbxK (nm : List Nat) (loc : List Nat) (i : Nat) (κ : KV) : Out := if oct loc then orQ (dotP (oc loc)) (oc loc) fun v ζ => (match v with
    | .bytes x => if nm = [] then κ (bB (x.toList ++ 64 :: domB i)) [] else if oct nm then orQ (spcP (oc nm)) (oc nm) fun v ζ => (match v with
      | .bytes y => κ (bB (y.toList ++ (32 :: 60 :: (x.toList ++ 64 :: domB i)) ++ [62])) []
      | _ => .stuck) else .exc
    | _ => .stuck) else .exc
noncomputable def S372 (pf : PF) : Prop := ∀ (nm loc : List Nat) (i : Nat) (κ : KV), 2 * nm.length ≤ szB → 2 * loc.length ≤ szB → pf 372 [mbx (.str (sS nm)) (.str (sS loc)) (.str (sS (domS i)))] κ = mbxK nm loc i κ
theorem orQ_run {b : Bool} {l : List UInt8} {κ κ' : KV} (h : ∀ x : List UInt8, x.length ≤ 2 * l.length + 2 → κ (bB x) [] = κ' (bB x) []) : orQ b l κ = orQ b l κ' := by
  have := escP_len [34, 92] l
  unfold orQ
  rw [h l (by exact chk [_] .z 1 (.v 0) (.a (.m 2 (.v 0)) (.n 2)) rfl), h (quoP l) (by unfold quoP; simp; exact this)]
theorem domB_len (i : Nat) : (domB i).length ≤ 5 := by
  unfold domB domS
  split <;> simp [oc]
theorem sS_nil (t : List Nat) : decide (sS t = sOf "") = decide (t = []) := by
  by_cases h : t = []
  · subst h; kernel_rfl
  · rw [decide_eq_false h, decide_eq_false]
    intro q
    apply h
    have q : (sS t).cps.toList = (sOf "").cps.toList := by rw [q]
    exact q.trans (by kernel_rfl)
theorem s372 (h358 : S358 pf) (h365 : S365 pf) (h351 : S351 pf) : S372 (SXO lf pf mf).pf := fun nm loc i κ h1 h2 => by
  have hl := lim_big
  have h0 : 10 ≤ szB := by decide
  have o1 := oc_len nm
  have o2 := oc_len loc
  have hd := domB_len i
  rw [eq372, h358 loc _ h2]
  unfold mbxK
  induction oct loc using Bool.casesOn with
  | false => rfl
  | true =>
    rw [if_pos rfl, if_pos rfl]
    refine orQ_run fun x hx => ?_
    show binop .Add (bB x) (bB [64]) (fun x => pf 365 [.str (sS (domS i))] fun v fr => retK [] v fr fun y σ => binop .Add x y fun v => pW (QX lf pf mf) (stAt 39) 1 κ [some (mbx (.str (sS nm)) (.str (sS loc)) (.str (sS (domS i)))), some v, none, none, none] σ) = _
    rw [add_b _ _ (by simp; exact chk [_,_,_,_,_] (.h 1 (.m 2 (.v 2)) (.v 3) (.h 1 (.r (.v 3) 100) (.v 1) (.h 1 (.n 10) (.v 3) (.h 2 (.v 4) (.v 2) (.h 1 (.v 0) (.a (.m 2 (.v 4)) (.n 2)) .z))))) 1 (.a (.v 0) (.n 1)) (.v 1) rfl h2 hl h0 (Nat.le_of_eq o2) hx), h365]
    show binop .Add (bB (x ++ [64])) (bB (domB i)) (fun v => pW (QX lf pf mf) (stAt 39) 1 κ [some (mbx (.str (sS nm)) (.str (sS loc)) (.str (sS (domS i)))), some v, none, none, none] []) = _
    rw [add_b _ _ (by simp; exact chk [_,_,_,_,_,_] (.h 1 (.m 2 (.v 3)) (.v 4) (.h 1 (.r (.v 4) 100) (.v 2) (.h 1 (.n 10) (.v 4) (.h 2 (.v 5) (.v 3) (.h 1 (.v 1) (.n 5) (.h 1 (.v 0) (.a (.m 2 (.v 5)) (.n 2)) .z)))))) 1 (.a (.a (.v 0) (.n 1)) (.v 1)) (.v 2) rfl h2 hl h0 (Nat.le_of_eq o2) hd hx)]
    rw [show x ++ [64] ++ domB i = x ++ 64 :: domB i by simp, bB, p372, sS_nil]
    by_cases hn : nm = []
    · rw [decide_eq_true hn, br_t]
      show _ = (if nm = [] then _ else _)
      rw [if_pos hn]; rfl
    · rw [decide_eq_false hn, br_f, h351 nm _ h1]
      show _ = (if nm = [] then _ else _)
      rw [if_neg hn]
      induction oct nm using Bool.casesOn with
      | false => rfl
      | true =>
        rw [if_pos rfl, if_pos rfl]
        refine orQ_run fun y hy => ?_
        show binop .Add (bB y) (bB [32, 60]) (fun v => binop .Add v (bB (x ++ 64 :: domB i)) fun v => binop .Add v (bB [62]) fun v => frz v [] κ) = _
        rw [add_b _ _ (by simp; exact chk [_,_,_,_,_] (.h 1 (.m 2 (.v 2)) (.v 3) (.h 1 (.r (.v 3) 100) (.v 1) (.h 1 (.n 10) (.v 3) (.h 2 (.v 4) (.v 2) (.h 1 (.v 0) (.a (.m 2 (.v 4)) (.n 2)) .z))))) 1 (.a (.v 0) (.n 2)) (.v 1) rfl h1 hl h0 (Nat.le_of_eq o1) hy), add_b _ _ (by simp; exact chk [_,_,_,_,_,_,_,_,_] (.h 1 (.m 2 (.v 4)) (.v 5) (.h 1 (.m 2 (.v 6)) (.v 5) (.h 1 (.r (.v 5) 100) (.v 3) (.h 2 (.n 10) (.v 5) (.h 2 (.v 7) (.v 4) (.h 2 (.v 8) (.v 6) (.h 1 (.v 2) (.n 5) (.h 1 (.v 1) (.a (.m 2 (.v 8)) (.n 2)) (.h 1 (.v 0) (.a (.m 2 (.v 7)) (.n 2)) .z))))))))) 1 (.a (.a (.v 0) (.n 2)) (.a (.v 1) (.a (.v 2) (.n 1)))) (.v 3) rfl h1 h2 hl h0 (Nat.le_of_eq o1) (Nat.le_of_eq o2) hd hx hy), add_b _ _ (by simp; exact chk [_,_,_,_,_,_,_,_,_] (.h 1 (.m 2 (.v 4)) (.v 5) (.h 1 (.m 2 (.v 6)) (.v 5) (.h 1 (.r (.v 5) 100) (.v 3) (.h 2 (.n 10) (.v 5) (.h 2 (.v 7) (.v 4) (.h 2 (.v 8) (.v 6) (.h 1 (.v 2) (.n 5) (.h 1 (.v 1) (.a (.m 2 (.v 8)) (.n 2)) (.h 1 (.v 0) (.a (.m 2 (.v 7)) (.n 2)) .z))))))))) 1 (.a (.a (.v 0) (.a (.a (.a (.v 1) (.a (.v 2) (.n 1))) (.n 1)) (.n 1))) (.n 1)) (.v 3) rfl h1 h2 hl h0 (Nat.le_of_eq o1) (Nat.le_of_eq o2) hd hx hy)]
        show κ (bB _) [] = κ (bB _) []
        congr 2
        simp
end Mine
end
section
set_option maxRecDepth 100000
namespace Mine
open PySem
variable {lf : Nat} {pf : PF} {mf : MF}

noncomputable abbrev rN : List Str := [sOf "tokens", sOf "at", sOf "length"]
noncomputable abbrev rC (T : List PV) (a ln : Int) : Cell := .inst 288 rN [.lst T, .int a, .int ln]
noncomputable abbrev rd (T r : List Tok) (ln : Int) : Cell := rC (T.map enc) (po T r) ln
noncomputable def cm (Q : Orc) (σ : List Cell) (nm : Str) (args : List PV) (k : KV) : Out := br (preM Q σ (.cell 0) nm) (callM Q σ (.cell 0) nm args k) .stuck
noncomputable abbrev at0 (Q : Orc) (σ : List Cell) (nm : String) (k : PV → Out) : Out := attr Q σ (.cell 0) (sOf nm) k
noncomputable def kB (f : KB) : KV := fun v σ => match v with
  | .bool c => f c σ
  | _ => .stuck

/- 236 is_done -/
noncomputable def M236 (mf : MF) : Prop := ∀ (T r : List Tok) (ln : Int) (κ : PV → Cell → List Cell → Out), r <:+ T → mf 236 (rd T r ln) [] κ = κ (.bool r.isEmpty) (rd T r ln) []
theorem eq236 (T : List PV) (a ln : Int) (κ : PV → Cell → List Cell → Out) : (SXO lf pf mf).mf 236 (rC T a ln) [] κ = κ (.bool (decide ((T.length : Int) ≤ a))) (rC T a ln) [] := by kernel_rfl
theorem len_enc (T : List Tok) : ((T.map enc).length : Int) = T.length := by simp
theorem m236 : M236 (SXO lf pf mf).mf := fun T r ln κ s => by
  rw [eq236, len_enc, ge_at s]

/- 243 kind -/
noncomputable def kindP : List Tok → Str
  | [] => sOf ""
  | t :: _ => nmK t.kd
noncomputable def M243 (mf : MF) : Prop := ∀ (T r : List Tok) (ln : Int) (κ : PV → Cell → List Cell → Out), r <:+ T → mf 243 (rd T r ln) [] κ = κ (.str (kindP r)) (rd T r ln) []
theorem eq243 (T : List PV) (a ln : Int) (κ : PV → Cell → List Cell → Out) : (SXO lf pf mf).mf 243 (rC T a ln) [] κ = mf 236 (rC T a ln) [] fun v c fr => retK [c] v fr (kB fun c σ => br c (selfOf σ fun c => κ (.str (sOf "")) c [])
  (at0 (QX lf pf mf) σ "tokens" fun tv => at0 (QX lf pf mf) σ "at" fun av => sub σ tv av fun t => sub σ t (.int 0) fun v => selfOf σ fun c => frzM v σ fun p fr => κ p c fr)) := by kernel_rfl
theorem get_enc {T r : List Tok} {t : Tok} (s : t :: r <:+ T) (ln : Int) (k : PV → Out) : sub [rd T (t :: r) ln] (.lst (T.map enc)) (.int (po T (t :: r))) k = k (enc t) := by
  show opt (lIdx (T.map enc) (po T (t :: r))) k = _
  have : (t :: r).map enc <:+ T.map enc := by
    obtain ⟨p, e⟩ := s
    exact ⟨p.map enc, by rw [← e, List.map_append]⟩
  have e : po T (t :: r) = po (T.map enc) ((t :: r).map enc) := by unfold po; simp
  rw [e, List.map_cons]
  rw [List.map_cons] at this
  rw [lix_at this, opt_s]
theorem m243 (h236 : M236 mf) : M243 (SXO lf pf mf).mf := fun T r ln κ s => by
  rw [eq243, h236 T r ln _ s]
  induction r using List.casesOn with
  | nil => rfl
  | cons t r =>
    show sub [rd T (t :: r) ln] (.lst (T.map enc)) (.int (po T (t :: r))) (fun u => sub [rd T (t :: r) ln] u (.int 0) fun v => frzM v [rd T (t :: r) ln] fun p fr => κ p (rd T (t :: r) ln) fr) = _
    rw [get_enc s]
    rfl

/- 250 stands -/
noncomputable def standsP (s : List UInt8) : List Tok → Bool
  | [] => false
  | t :: _ => decide (t.kd = .sign) && decide (t.w = s)
noncomputable def M250 (mf : MF) : Prop := ∀ (T r : List Tok) (ln : Int) (s : List UInt8) (κ : PV → Cell → List Cell → Out), r <:+ T → mf 250 (rd T r ln) [bB s] κ = κ (.bool (standsP s r)) (rd T r ln) []
theorem eq250 (T : List PV) (a ln : Int) (d : Array UInt8) (κ : PV → Cell → List Cell → Out) : (SXO lf pf mf).mf 250 (rC T a ln) [.bytes d] κ = mf 243 (rC T a ln) [] fun v c fr => retK [c] v fr fun v σ => opt (cmp σ .Eq v (.str (sOf "sign"))) fun c => br c
  (at0 (QX lf pf mf) σ "tokens" fun tv => at0 (QX lf pf mf) σ "at" fun av => sub σ tv av fun t => sub σ t (.int 1) fun v => opt (cmp σ .Eq v (.bytes d)) fun b => selfOf σ fun c => κ (.bool b) c []) (selfOf σ fun c => κ (.bool false) c []) := by kernel_rfl
theorem m250 (h243 : M243 mf) : M250 (SXO lf pf mf).mf := fun T r ln s κ sf => by
  unfold bB
  rw [eq250, h243 T r ln _ sf]
  induction r using List.casesOn with
  | nil =>
    kernel_rfl
  | cons t r =>
    show br (decide (nmK t.kd = sOf "sign")) (sub [rd T (t :: r) ln] (.lst (T.map enc)) (.int (po T (t :: r))) (fun u => sub [rd T (t :: r) ln] u (.int 1) fun v => opt (cmp [rd T (t :: r) ln] .Eq v (.bytes s.toArray)) fun b => κ (.bool b) (rd T (t :: r) ln) [])) (κ (.bool false) (rd T (t :: r) ln) []) = _
    rw [is_sign, get_enc sf]
    show br (decide (t.kd = .sign)) (κ (.bool (decide (t.w.toArray = s.toArray))) _ _) _ = _
    rw [toA_inj]
    show _ = κ (.bool (decide (t.kd = .sign) && decide (t.w = s))) _ _
    cases decide (t.kd = .sign) <;> rfl

/- 257 take -/
noncomputable def M257 (mf : MF) : Prop := ∀ (T r : List Tok) (t : Tok) (ln : Int) (κ : PV → Cell → List Cell → Out), t :: r <:+ T → mf 257 (rd T (t :: r) ln) [] κ = κ (enc t) (rd T r ln) []
theorem eq257 (T : List PV) (a ln : Int) (κ : PV → Cell → List Cell → Out) : (SXO lf pf mf).mf 257 (rC T a ln) [] κ = sub [rC T a ln] (.lst T) (.int a) fun t => frzM t [rC T (a + 1) ln] fun p fr => κ p (rC T (a + 1) ln) fr := by kernel_rfl
theorem m257 : M257 (SXO lf pf mf).mf := fun T r t ln κ s => by
  rw [eq257, get_enc s, po_tail]
  rfl

/- 264 skip -/
noncomputable def skipP (s : List UInt8) (r : List Tok) : List Tok := if standsP s r then r.tail else r
noncomputable def M264 (mf : MF) : Prop := ∀ (T r : List Tok) (ln : Int) (s : List UInt8) (κ : PV → Cell → List Cell → Out), r <:+ T → mf 264 (rd T r ln) [bB s] κ = κ (.bool (standsP s r)) (rd T (skipP s r) ln) []
theorem eq264 (T : List PV) (a ln : Int) (d : Array UInt8) (κ : PV → Cell → List Cell → Out) : (SXO lf pf mf).mf 264 (rC T a ln) [.bytes d] κ = mf 250 (rC T a ln) [.bytes d] fun v c fr => retK [c] v fr (kB fun b σ => br (!b) (selfOf σ fun c => κ (.bool false) c [])
  (at0 (QX lf pf mf) σ "at" fun av => binop .Add av (.int 1) fun av => setAttrC (QX lf pf mf) σ (.cell 0) (sOf "at") av fun σ => selfOf σ fun c => κ (.bool true) c [])) := by kernel_rfl
theorem rd_set (T : List PV) (a b ln : Int) (k : List Cell → Out) : setAttrC (QX lf pf mf) [rC T a ln] (.cell 0) (sOf "at") (.int b) k = k [rC T b ln] := by kernel_rfl
theorem rd_at (T : List PV) (a ln : Int) (σ : List Cell) (k : PV → Out) : at0 (QX lf pf mf) (rC T a ln :: σ) "at" k = k (.int a) := by kernel_rfl
theorem m264 (h250 : M250 mf) : M264 (SXO lf pf mf).mf := fun T r ln s κ sf => by
  have h := fun κ => h250 T r ln s κ sf
  unfold bB at h ⊢
  rw [eq264, h]
  show br (!standsP s r) (κ (.bool false) (rd T r ln) []) (at0 (QX lf pf mf) [rd T r ln] "at" fun av => binop .Add av (.int 1) fun av => setAttrC (QX lf pf mf) [rd T r ln] (.cell 0) (sOf "at") av fun σ => selfOf σ fun c => κ (.bool true) c []) = _
  unfold skipP
  induction hs : standsP s r using Bool.casesOn with
  | false => rfl
  | true =>
    induction r using List.casesOn with
    | nil => exact nft hs
    | cons t r =>
      rw [Bool.not_true, br_f, rd_at]
      show setAttrC (QX lf pf mf) [rd T (t :: r) ln] (.cell 0) (sOf "at") (.int (po T (t :: r) + 1)) (fun σ => selfOf σ fun c => κ (.bool true) c []) = _
      rw [rd_set, po_tail]; rfl

/- 271 fault, 278 need -/
noncomputable def M271 (mf : MF) : Prop := ∀ (T r : List Tok) (ln : Int) (s : Str) (κ : PV → Cell → List Cell → Out), r <:+ T → mf 271 (rd T r ln) [.str s] κ = κ (.cell 0) (rd T r ln) [.exc]
theorem eq271 (T : List PV) (a ln : Int) (s : Str) (κ : PV → Cell → List Cell → Out) : (SXO lf pf mf).mf 271 (rC T a ln) [.str s] κ = mf 236 (rC T a ln) [] fun v c fr => retK [c] v fr (kB fun b σ =>
  (let K : KV := fun v σ => callF (QX lf pf mf) σ (.raw (.ref 52)) [.str s, v] fun v σ => selfOf σ fun c => frzM v σ fun p fr => κ p c fr
   br b (at0 (QX lf pf mf) σ "length" fun v => K v σ) (at0 (QX lf pf mf) σ "tokens" fun tv => at0 (QX lf pf mf) σ "at" fun av => sub σ tv av fun t => sub σ t (.int 2) fun v => K v σ))) := by kernel_rfl
theorem made (T : List PV) (a ln i : Int) (s : Str) (κ : PV → Cell → List Cell → Out) : (callF (QX lf pf mf) [rC T a ln] (.raw (.ref 52)) [.str s, .int i] fun v σ => selfOf σ fun c => frzM v σ fun p fr => κ p c fr) = κ (.cell 0) (rC T a ln) [.exc] := by kernel_rfl
theorem m271 (h236 : M236 mf) : M271 (SXO lf pf mf).mf := fun T r ln s κ sf => by
  rw [eq271, h236 T r ln _ sf]
  induction r using List.casesOn with
  | nil => exact made _ _ _ _ _ _
  | cons t r =>
    show sub [rd T (t :: r) ln] (.lst (T.map enc)) (.int (po T (t :: r))) (fun t' => sub [rd T (t :: r) ln] t' (.int 2) fun v => callF (QX lf pf mf) [rd T (t :: r) ln] (.raw (.ref 52)) [.str s, v] fun v σ => selfOf σ fun c => frzM v σ fun p fr => κ p c fr) = _
    rw [get_enc sf]
    exact made _ _ _ _ _ _
/- the reader's methods, called behind a state that stands -/
theorem cm_is_done (T : List PV) (a ln : Int) (k : KV) : cm (QX lf pf mf) [rC T a ln] (sOf "is_done") [] k = mf 236 (rC T a ln) [] fun v c fr => retK [c] v fr k := by kernel_rfl
theorem cm_fault (T : List PV) (a ln : Int) (s : Str) (k : KV) : cm (QX lf pf mf) [rC T a ln] (sOf "fault") [.str s] k = mf 271 (rC T a ln) [.str s] fun v c fr => retK [c] v fr k := by kernel_rfl
noncomputable def M278 (mf : MF) : Prop := ∀ (T r : List Tok) (ln : Int) (s : List UInt8) (κ : PV → Cell → List Cell → Out), r <:+ T → s.length ≤ 10 → mf 278 (rd T r ln) [bB s] κ = if standsP s r then κ .none (rd T r.tail ln) [] else .exc
theorem eq278 (T : List PV) (a ln : Int) (d : Array UInt8) (κ : PV → Cell → List Cell → Out) : (SXO lf pf mf).mf 278 (rC T a ln) [.bytes d] κ = mf 264 (rC T a ln) [.bytes d] fun v c fr => retK [c] v fr (kB fun b σ => br (!b)
  (br (preM (QX lf pf mf) σ (.cell 0) (sOf "fault")) (br (noExc σ) (pf 210 [.bytes d] fun v fr => retK σ v fr fun v σ => binop .Add v (.str (sOf " is missing")) fun v => callM (QX lf pf mf) σ (.cell 0) (sOf "fault") [v] fun v σ => br (isExc σ v) .exc .stuck) .stuck) .stuck)
  (selfOf σ fun c => κ .none c [])) := by kernel_rfl
theorem cm_fault' (T : List PV) (a ln : Int) (s : Str) (k : KV) : callM (QX lf pf mf) [rC T a ln] (.cell 0) (sOf "fault") [.str s] k = mf 271 (rC T a ln) [.str s] fun v c fr => retK [c] v fr k := by kernel_rfl
theorem pre_fault (T : List PV) (a ln : Int) : preM (QX lf pf mf) [rC T a ln] (.cell 0) (sOf "fault") = true := by kernel_rfl
theorem m278 (h264 : M264 mf) (h271 : M271 mf) (h210 : S210 pf) : M278 (SXO lf pf mf).mf := fun T r ln s κ sf hs => by
  have hl := lim_big
  have h0 : 100 ≤ szB := by decide
  have h := fun κ => h264 T r ln s κ sf
  have h2 := fun κ => h210 s κ (by exact chk [_,_] (.h 1 (.v 0) (.n 10) (.h 1 (.n 100) (.v 1) .z)) 1 (.v 0) (.v 1) rfl hs h0)
  unfold bB at h h2 ⊢
  rw [eq278, h]
  show br (!standsP s r) (br (preM (QX lf pf mf) [rd T (skipP s r) ln] (.cell 0) (sOf "fault")) (pf 210 [.bytes s.toArray] fun v fr => retK [rd T (skipP s r) ln] v fr fun v σ => binop .Add v (.str (sOf " is missing")) fun v => callM (QX lf pf mf) σ (.cell 0) (sOf "fault") [v] fun v σ => br (isExc σ v) .exc .stuck) .stuck) (κ .none (rd T (skipP s r) ln) []) = _
  unfold skipP
  induction standsP s r using Bool.casesOn with
  | true => rfl
  | false =>
    rw [Bool.not_false, br_t, if_neg Bool.false_ne_true, if_neg Bool.false_ne_true, pre_fault, br_t, h2]
    show br (decide ((tx s).length + (sOf " is missing").length ≤ LIM)) (callM (QX lf pf mf) [rd T r ln] (.cell 0) (sOf "fault") [.str (tx s ++ sOf " is missing")] fun v σ => br (isExc σ v) .exc .stuck) .stuck = _
    rw [decide_eq_true, br_t, cm_fault', h271 T r ln _ _ sf]
    · rfl
    · rw [show (sOf " is missing").length = 11 by kernel_rfl]
      show (s.map UInt8.toNat).toArray.size + 11 ≤ LIM
      simp; exact chk [_,_,_] (.h 1 (.v 0) (.n 10) (.h 1 (.r (.v 2) 100) (.v 1) (.h 1 (.n 100) (.v 2) .z))) 1 (.a (.v 0) (.n 11)) (.v 1) rfl hs hl h0
end Mine
end
section
set_option maxRecDepth 100000
namespace Mine
open PySem
variable {lf : Nat} {pf : PF} {mf : MF}

theorem rK (σ : List Cell) (v : PV) (k : KV) : retK σ v [] k = k v σ := rfl
theorem kB_b (f : KB) (c : Bool) (σ : List Cell) : kB f (.bool c) σ = f c σ := rfl
noncomputable def cmR (Q : Orc) (σ : List Cell) (nm : String) (args : List PV) (k : KV) : Out := cm Q σ (sOf nm) args k
theorem cm_d (T : List PV) (a ln : Int) (l : List PV) (k : KV) : cmR (QX lf pf mf) [rC T a ln, .list l] "is_done" [] k = mf 236 (rC T a ln) [] fun v c fr => retK [c, .list l] v fr k := by kernel_rfl
theorem cm_k (T : List PV) (a ln : Int) (l : List PV) (k : KV) : cmR (QX lf pf mf) [rC T a ln, .list l] "kind" [] k = mf 243 (rC T a ln) [] fun v c fr => retK [c, .list l] v fr k := by kernel_rfl
theorem cm_s (T : List PV) (a ln : Int) (l : List PV) (s : Array UInt8) (k : KV) : cmR (QX lf pf mf) [rC T a ln, .list l] "stands" [.bytes s] k = mf 250 (rC T a ln) [.bytes s] fun v c fr => retK [c, .list l] v fr k := by kernel_rfl
theorem cm_t (T : List PV) (a ln : Int) (l : List PV) (k : KV) : cmR (QX lf pf mf) [rC T a ln, .list l] "take" [] k = mf 257 (rC T a ln) [] fun v c fr => retK [c, .list l] v fr k := by kernel_rfl
theorem cm_x (T : List PV) (a ln : Int) (l : List PV) (s : Array UInt8) (k : KV) : cmR (QX lf pf mf) [rC T a ln, .list l] "skip" [.bytes s] k = mf 264 (rC T a ln) [.bytes s] fun v c fr => retK [c, .list l] v fr k := by kernel_rfl
theorem cm_f (T : List PV) (a ln : Int) (l : List PV) (s : Str) (k : KV) : cmR (QX lf pf mf) [rC T a ln, .list l] "fault" [.str s] k = mf 271 (rC T a ln) [.str s] fun v c fr => retK [c, .list l] v fr k := by kernel_rfl
theorem cm0_d (T : List PV) (a ln : Int) (k : KV) : cmR (QX lf pf mf) [rC T a ln] "is_done" [] k = mf 236 (rC T a ln) [] fun v c fr => retK [c] v fr k := by kernel_rfl
theorem cm0_k (T : List PV) (a ln : Int) (k : KV) : cmR (QX lf pf mf) [rC T a ln] "kind" [] k = mf 243 (rC T a ln) [] fun v c fr => retK [c] v fr k := by kernel_rfl
theorem cm0_s (T : List PV) (a ln : Int) (s : Array UInt8) (k : KV) : cmR (QX lf pf mf) [rC T a ln] "stands" [.bytes s] k = mf 250 (rC T a ln) [.bytes s] fun v c fr => retK [c] v fr k := by kernel_rfl
theorem cm0_t (T : List PV) (a ln : Int) (k : KV) : cmR (QX lf pf mf) [rC T a ln] "take" [] k = mf 257 (rC T a ln) [] fun v c fr => retK [c] v fr k := by kernel_rfl
theorem cm0_x (T : List PV) (a ln : Int) (s : Array UInt8) (k : KV) : cmR (QX lf pf mf) [rC T a ln] "skip" [.bytes s] k = mf 264 (rC T a ln) [.bytes s] fun v c fr => retK [c] v fr k := by kernel_rfl
theorem cm0_f (T : List PV) (a ln : Int) (s : Str) (k : KV) : cmR (QX lf pf mf) [rC T a ln] "fault" [.str s] k = mf 271 (rC T a ln) [.str s] fun v c fr => retK [c] v fr k := by kernel_rfl
theorem cm0_n (T : List PV) (a ln : Int) (s : Array UInt8) (k : KV) : cmR (QX lf pf mf) [rC T a ln] "need" [.bytes s] k = mf 278 (rC T a ln) [.bytes s] fun v c fr => retK [c] v fr k := by kernel_rfl
theorem cm0_w (T : List PV) (a ln : Int) (k : KV) : cmR (QX lf pf mf) [rC T a ln] "words" [] k = mf 285 (rC T a ln) [] fun v c fr => retK [c] v fr k := by kernel_rfl

/- the loops of functions whose first argument changes -/
noncomputable def kM (κ : PV → Cell → List Cell → Out) : KV := fun v σ => selfOf σ fun c => frzM v σ fun p fr => κ p c fr
noncomputable def pM (Q : Orc) (st : Stmt) (j : Nat) (κ : PV → Cell → List Cell → Out) (m : Loc) (σ : List Cell) : Out := execS Q (fNames st) (60 - j) ((fBody st).drop j) m σ (fun ζ σ => selfOf σ fun c => κ .none c []) (fun ζ ζ => .stuck) (kM κ)

/- 285 words -/
noncomputable def isWrd (t : Tok) : Bool := !decide (t.kd = .sign) || decide (t.w = [46])
noncomputable def wordsP (r : List Tok) : List Tok := r.takeWhile isWrd
noncomputable def restP (r : List Tok) : List Tok := r.dropWhile isWrd
noncomputable abbrev w85 : Stmt := inCls 27 8
theorem eq285 (T : List PV) (a ln : Int) (κ : PV → Cell → List Cell → Out) : (SXO lf pf mf).mf 285 (rC T a ln) [] κ = whileL lf (tW (QX lf pf mf) w85 1) (bW (QX lf pf mf) (kM κ) w85 1 0) [some (.cell 0), some (.cell 1)] [rC T a ln, .list []] (pM (QX lf pf mf) w85 2 κ) := by kernel_rfl
theorem t285 (T : List PV) (a ln : Int) (l : List PV) (k : KB) : tW (QX lf pf mf) w85 1 [some (.cell 0), some (.cell 1)] [rC T a ln, .list l] k =
  cmR (QX lf pf mf) [rC T a ln, .list l] "is_done" [] (kB fun c σ => br (!c) (cmR (QX lf pf mf) σ "kind" [] fun v σ => opt (cmp σ .NotEq v (.str (sOf "sign"))) fun c => br c (k true σ) (cmR (QX lf pf mf) σ "stands" [bB [46]] (kB fun c σ => br c (k true σ) (k false σ)))) (k false σ)) := by kernel_rfl
theorem b285 (T : List PV) (a ln : Int) (l : List PV) (kr : KV) (k : KS) : bW (QX lf pf mf) kr w85 1 0 [some (.cell 0), some (.cell 1)] [rC T a ln, .list l] k =
  cmR (QX lf pf mf) [rC T a ln, .list l] "take" [] fun v σ => callM (QX lf pf mf) σ (.cell 1) (sOf "append") [v] fun ζ σ => k [some (.cell 0), some (.cell 1)] σ := by kernel_rfl
theorem app1 (c : Cell) (l : List PV) (t : Tok) (k : KV) : callM (QX lf pf mf) [c, .list l] (.cell 1) (sOf "append") [enc t] k = br (decide (l.length < LIM)) (k .none [c, .list (l ++ [enc t])]) .stuck := by kernel_rfl
theorem p285 (T : List PV) (a ln : Int) (l : List PV) (κ : PV → Cell → List Cell → Out) : pM (QX lf pf mf) w85 2 κ [some (.cell 0), some (.cell 1)] [rC T a ln, .list l] = κ (.lst l) (rC T a ln) [] := by kernel_rfl
noncomputable def M285 (mf : MF) : Prop := ∀ (T r : List Tok) (ln : Int) (κ : PV → Cell → List Cell → Out), r <:+ T → r.length ≤ szB → mf 285 (rd T r ln) [] κ = κ (.lst ((wordsP r).map enc)) (rd T (restP r) ln) []
theorem ne_sign (t : Tok) (c : Cell) (l : List Cell) : cmp (c :: l) .NotEq (.str (nmK t.kd)) (.str (sOf "sign")) = some (!decide (t.kd = .sign)) := by
  rw [← is_sign]; rfl
theorem lp285 (h236 : M236 mf) (h243 : M243 mf) (h250 : M250 mf) (h257 : M257 mf) (T : List Tok) (ln : Int) (κ : PV → Cell → List Cell → Out) : ∀ (n : Nat) (r acc : List Tok), r <:+ T → r.length < n → acc.length + r.length ≤ szB →
    whileL n (tW (QX lf pf mf) w85 1) (bW (QX lf pf mf) (kM κ) w85 1 0) [some (.cell 0), some (.cell 1)] [rd T r ln, .list (acc.map enc)] (pM (QX lf pf mf) w85 2 κ) = κ (.lst ((acc ++ wordsP r).map enc)) (rd T (restP r) ln) []
  | 0, r, acc, s, hn, _ => absurd hn (Nat.not_lt_zero _)
  | n + 1, r, acc, s, hn, ha => by
    have q250 := fun κ => h250 T r ln [46] κ s
    unfold bB at q250
    rw [whileL, t285, cm_d, h236 T r ln _ s]
    induction r using List.casesOn with
    | nil =>
      show pM _ _ _ _ _ [rd T [] ln, .list (acc.map enc)] = _
      rw [p285]
      show _ = κ (.lst ((acc ++ []).map enc)) _ _
      rw [List.append_nil]; rfl
    | cons t r =>
      simp only [List.length_cons] at hn ha
      have go : (bW (QX lf pf mf) (kM κ) w85 1 0 [some (.cell 0), some (.cell 1)] [rd T (t :: r) ln, .list (acc.map enc)] fun m σ => whileL n (tW (QX lf pf mf) w85 1) (bW (QX lf pf mf) (kM κ) w85 1 0) m σ (pM (QX lf pf mf) w85 2 κ)) = κ (.lst ((acc ++ t :: wordsP r).map enc)) (rd T (restP r) ln) [] := by
        rw [b285, cm_t, h257 T r t ln _ s, rK, app1, lt_lim (by exact chk [_,_,_] (.h 1 (.a (.v 0) (.a (.v 2) (.n 1))) (.v 1) .z) 1 (.v 0) (.v 1) rfl ha), br_t]
        have := lp285 h236 h243 h250 h257 T ln κ n r (acc ++ [t]) (suf_tail s) (by exact Nat.le_of_lt_succ hn) (by simp; exact chk [_,_,_] (.h 1 (.a (.v 0) (.a (.v 1) (.n 1))) (.v 2) .z) 1 (.a (.a (.v 0) (.n 1)) (.v 1)) (.v 2) rfl ha)
        rw [List.map_append] at this
        refine Eq.trans this ?_
        simp
      show cmR (QX lf pf mf) [rd T (t :: r) ln, .list (acc.map enc)] "kind" [] _ = _
      rw [cm_k, h243 T (t :: r) ln _ s, rK, show kindP (t :: r) = nmK t.kd from rfl, ne_sign, opt_s]
      have e1 : wordsP (t :: r) = if isWrd t then t :: wordsP r else [] := List.takeWhile_cons
      have e2 : restP (t :: r) = if isWrd t then restP r else t :: r := List.dropWhile_cons
      rw [e1, e2]
      unfold isWrd
      by_cases hk : t.kd = .sign
      · rw [decide_eq_true hk, Bool.not_true, br_f]
        show cmR (QX lf pf mf) [rd T (t :: r) ln, .list (acc.map enc)] "stands" [.bytes [46].toArray] _ = _
        rw [cm_s, q250]
        have : standsP [46] (t :: r) = decide (t.w = [46]) := by show (decide (t.kd = .sign) && decide (t.w = [46])) = _; rw [decide_eq_true hk, Bool.true_and]
        rw [this, Bool.false_or]
        induction decide (t.w = [46]) using Bool.casesOn with
        | true => rw [if_pos rfl, if_pos rfl]; exact go
        | false =>
          show pM _ _ _ _ _ [rd T (t :: r) ln, .list (acc.map enc)] = _
          rw [p285, if_neg Bool.false_ne_true, if_neg Bool.false_ne_true, List.append_nil]
      · rw [decide_eq_false hk, Bool.not_false, br_t, Bool.true_or, if_pos rfl, if_pos rfl]
        exact go
theorem m285 (hlf : szB < lf) (h236 : M236 mf) (h243 : M243 mf) (h250 : M250 mf) (h257 : M257 mf) : M285 (SXO lf pf mf).mf := fun T r ln κ s hr => by
  rw [eq285]
  exact lp285 h236 h243 h250 h257 T ln κ lf r [] s (by exact Nat.lt_of_le_of_lt hr hlf) (by simp; exact hr)
end Mine
end
section
set_option maxRecDepth 100000
namespace Mine
open PySem
variable {lf : Nat} {pf : PF} {mf : MF}

theorem len_sz : ∀ ts : List Tok, ts.length ≤ sz ts
  | [] => Nat.le_refl _
  | t :: ts => by have := len_sz ts; skip; exact chk [_,_,_] (.h 1 (.v 0) (.v 2) .z) 1 (.a (.v 0) (.n 1)) (.a (.a (.v 1) (.n 1)) (.v 2)) rfl this

/- 299 local_of -/
noncomputable def localP : Nat → List Tok → Option (List (List UInt8))
  | _, [] => some []
  | i, t :: ts => if decide (t.kd = .sign) == decide (i % 2 = 1) then (if t.kd = .literal then none else (localP (i + 1) ts).map fun p => t.w :: p) else none
noncomputable abbrev m299 (ws : PV) (a b c d e : Option PV) : Loc := [some (.cell 0), some ws, some (.cell 1), a, b, c, d, e, none, none, none, none]
theorem eq299 (T ws : List PV) (a ln : Int) (κ : PV → Cell → List Cell → Out) : (SXO lf pf mf).mf 299 (rC T a ln) [.lst ws] κ = br (decide (ws.length ≤ LIM)) (forL ((List.range ws.length).map fun (i : Nat) => .int i) (bF (QX lf pf mf) (kM κ) (stAt 28) 1) (m299 (.lst ws) none none none none none) [rC T a ln, .list []] (pM (QX lf pf mf) (stAt 28) 2 κ)) .stuck := by kernel_rfl
theorem b299 (T ws : List PV) (u ln i : Int) (a b c d e : Option PV) (l : List PV) (kr : KV) (k : KS) : bF (QX lf pf mf) kr (stAt 28) 1 (.int i) (m299 (.lst ws) a b c d e) [rC T u ln, .list l] k =
  sub [rC T u ln, .list l] (.lst ws) (.int i) fun t => bA (QX lf pf mf) kr (stAt 28) 1 0 (m299 (.lst ws) (some (.int i)) b c d e) [rC T u ln, .list l] k t [] := by kernel_rfl
theorem c299 (T ws : List PV) (u ln i : Int) (b c d e : Option PV) (l : List PV) (kr : KV) (k : KS) (s : Str) (w : Array UInt8) (at_ : Int) : bA (QX lf pf mf) kr (stAt 28) 1 0 (m299 (.lst ws) (some (.int i)) b c d e) [rC T u ln, .list l] k (.tup [.str s, .bytes w, .int at_]) [] =
  br (!(decide (s = sOf "sign") == decide (i.fmod 2 = 1))) .exc (br (decide (s = sOf "literal")) .exc (br (decide (l.length < LIM)) (k (m299 (.lst ws) (some (.int i)) (some (.str s)) (some (.bytes w)) (some (.int at_)) (some (.bool (decide (s = sOf "sign"))))) [rC T u ln, .list (l ++ [.bytes w])]) .stuck)) := by kernel_rfl
theorem p299 (T ws : List PV) (u ln : Int) (a b c d e : Option PV) (l : List PV) (κ : PV → Cell → List Cell → Out) : pM (QX lf pf mf) (stAt 28) 2 κ (m299 (.lst ws) a b c d e) [rC T u ln, .list l] =
  br (decide (((ws.length : Int)).fmod 2 = 0)) (cmR (QX lf pf mf) [rC T u ln, .list l] "fault" [.str (sOf "a local part is missing")] fun v σ => br (isExc σ v) .exc .stuck) (pM (QX lf pf mf) (stAt 28) 3 κ (m299 (.lst ws) a b c d e) [rC T u ln, .list l]) := by kernel_rfl
theorem q299 (T ws : List PV) (u ln : Int) (a b c d e : Option PV) (l : List PV) (κ : PV → Cell → List Cell → Out) : pM (QX lf pf mf) (stAt 28) 3 κ (m299 (.lst ws) a b c d e) [rC T u ln, .list l] =
  opt (bytesOf l) fun bs => br (jFit 0 (bs.map (·.size))) (pf 210 [.bytes (bJoin [] bs).toArray] fun v fr => retK [rC T u ln, .list l] v fr (kM κ)) .stuck := by kernel_rfl
theorem is_lit (t : Tok) : decide (nmK t.kd = sOf "literal") = decide (t.kd = .literal) := by
  obtain ⟨kd, w, a⟩ := t
  cases kd <;> kernel_rfl
theorem get_enc' {T r : List Tok} {t : Tok} (s : t :: r <:+ T) (σ : List Cell) (k : PV → Out) : sub σ (.lst (T.map enc)) (.int (po T (t :: r))) k = k (enc t) := get_enc (ln := 0) s k
noncomputable def M299 (mf : MF) : Prop := ∀ (T r : List Tok) (ln : Int) (ws : List Tok) (κ : PV → Cell → List Cell → Out), r <:+ T → 2 * sz ws ≤ szB → mf 299 (rd T r ln) [.lst (ws.map enc)] κ =
  match localP 0 ws with
  | none => .exc
  | some p => if ws.length % 2 = 0 then .exc else κ (.str (tx p.flatten)) (rd T r ln) []
theorem lp299 (h271 : M271 mf) (h210 : S210 pf) (T r : List Tok) (ln : Int) (sf : r <:+ T) (ws : List Tok) (κ : PV → Cell → List Cell → Out) : ∀ (us : List Tok) (acc : List (List UInt8)) (i : Nat) (a b c d e : Option PV), us <:+ ws → i + us.length = ws.length → acc.length + 2 * sz us ≤ szB → acc.flatten.length + 2 * sz us ≤ szB →
    forL ((List.range' i us.length).map fun (i : Nat) => .int i) (bF (QX lf pf mf) (kM κ) (stAt 28) 1) (m299 (.lst (ws.map enc)) a b c d e) [rd T r ln, .list (acc.map bB)] (pM (QX lf pf mf) (stAt 28) 2 κ) =
    match localP i us with
    | none => .exc
    | some p => if ws.length % 2 = 0 then .exc else κ (.str (tx (acc.flatten ++ p.flatten))) (rd T r ln) []
  | [], acc, i, a, b, c, d, e, s, hi, h1, h2 => by
    show pM _ _ _ _ _ _ = if ws.length % 2 = 0 then .exc else κ (.str (tx (acc.flatten ++ []))) (rd T r ln) []
    rw [p299, List.append_nil, List.length_map]
    by_cases hp : ws.length % 2 = 0
    · rw [if_pos hp, decide_eq_true (by rw [Int.fmod_eq_emod_of_nonneg _ (by decide)]; omega), cm_f, h271 T r ln _ _ sf]
      rfl
    · rw [if_neg hp, decide_eq_false (by rw [Int.fmod_eq_emod_of_nonneg _ (by decide)]; omega), br_f, q299]
      rw [joined (by exact chk [_,_,_] (.h 1 (.a (.v 0) (.m 2 (.v 2))) (.v 1) .z) 1 (.v 0) (.v 1) rfl h2) fun w => pf 210 [.bytes w.toArray] fun v fr => retK [rd T r ln, .list (acc.map bB)] v fr (kM κ)]
      have := fun κ => h210 acc.flatten κ (by exact chk [_,_,_] (.h 1 (.a (.v 0) (.m 2 (.v 2))) (.v 1) .z) 1 (.v 0) (.v 1) rfl h2)
      unfold bB at this
      rw [this]; rfl
  | t :: us, acc, i, a, b, c, d, e, s, hi, h1, h2 => by
    rw [sz_cons] at h1 h2
    simp only [List.length_cons] at hi
    have e1 : ((i : Nat) : Int) = po ws (t :: us) := by unfold po; simp only [List.length_cons]; omega
    rw [List.length_cons, List.range'_succ, List.map_cons, forL, b299, e1, get_enc' s, ← e1]
    unfold enc
    rw [c299, is_sign, is_lit, lt_lim (by exact chk [_,_,_,_] (.h 1 (.a (.v 0) (.m 2 (.a (.a (.v 2) (.n 1)) (.v 3)))) (.v 1) .z) 1 (.v 0) (.v 1) rfl h1)]
    have e2 : decide (((i : Nat) : Int).fmod 2 = 1) = decide (i % 2 = 1) := by
      rw [Int.fmod_eq_emod_of_nonneg _ (by decide)]
      exact decide_eq_decide.mpr (by omega)
    rw [e2]
    unfold localP
    induction decide (t.kd = .sign) == decide (i % 2 = 1) using Bool.casesOn with
    | false => rfl
    | true =>
      skip
      by_cases hl : t.kd = .literal
      · rw [decide_eq_true hl, if_pos hl]; rfl
      · rw [decide_eq_false hl, if_neg hl]
        have := lp299 h271 h210 T r ln sf ws κ us (acc ++ [t.w]) (i + 1) (some (.int i)) (some (.str (nmK t.kd))) (some (.bytes t.w.toArray)) (some (.int t.at_)) (some (.bool (decide (t.kd = .sign)))) (suf_tail s) (by exact Nat.le_antisymm (chk [_,_,_] (.h 1 (.a (.v 0) (.a (.v 1) (.n 1))) (.v 2) .z) 1 (.a (.a (.v 0) (.n 1)) (.v 1)) (.v 2) rfl (Nat.le_of_eq hi)) (chk [_,_,_] (.h 1 (.v 2) (.a (.v 0) (.a (.v 1) (.n 1))) .z) 1 (.v 2) (.a (.a (.v 0) (.n 1)) (.v 1)) rfl (Nat.le_of_eq (Eq.symm hi)))) (by simp; exact chk [_,_,_,_] (.h 1 (.a (.v 0) (.m 2 (.a (.a (.v 3) (.n 1)) (.v 1)))) (.v 2) .z) 1 (.a (.a (.v 0) (.n 1)) (.m 2 (.v 1))) (.v 2) rfl h1) (by rw [flat1]; exact chk [_,_,_,_] (.h 1 (.a (.v 0) (.m 2 (.a (.a (.v 1) (.n 1)) (.v 2)))) (.v 3) .z) 1 (.a (.a (.v 0) (.v 1)) (.m 2 (.v 2))) (.v 3) rfl h2)
        rw [List.map_append] at this
        refine Eq.trans this ?_
        induction localP (i + 1) us using Option.casesOn with
        | none => rfl
        | some p => simp
theorem m299_ok (h271 : M271 mf) (h210 : S210 pf) : M299 (SXO lf pf mf).mf := fun T r ln ws κ sf h => by
  have hl := lim_big
  have := len_sz ws
  rw [eq299, List.length_map, decide_eq_true (by exact chk [_,_,_,_] (.h 1 (.m 2 (.v 2)) (.v 3) (.h 1 (.r (.v 3) 100) (.v 1) (.h 1 (.v 0) (.v 2) .z))) 1 (.v 0) (.v 1) rfl h hl this), List.range_eq_range']
  exact lp299 h271 h210 T r ln sf ws κ ws [] 0 none none none none none (List.suffix_refl _) (by exact Nat.le_antisymm (chk [_] .z 1 (.a (.n 0) (.v 0)) (.v 0) rfl) (chk [_] .z 1 (.v 0) (.a (.n 0) (.v 0)) rfl)) (by simp; exact h) (by simp; exact h)

/- 306 domain_of -/
noncomputable def jn (sep : List UInt8) : List (List UInt8) → List UInt8
  | [] => []
  | [x] => x
  | x :: r => x ++ sep ++ jn sep r
noncomputable def domL : List Tok → Option (List (List UInt8) × List Tok)
  | [] => none
  | t :: r => if t.kd = .atom then (match r with
    | [] => some ([t.w], [])
    | p :: r' => if standsP [46] (p :: r') then (domL r').map fun q => (t.w :: q.1, q.2) else some ([t.w], p :: r')) else none
noncomputable def domainP : List Tok → Option (List UInt8 × List Tok)
  | [] => none
  | t :: r => if t.kd = .literal then some (91 :: t.w ++ [93], r) else (domL (t :: r)).map fun q => (jn [46] q.1, q.2)
noncomputable abbrev f306 (Q : Orc) (σ : List Cell) (w : PV) (k : KV) : Out := callF Q σ (.raw (.ref 210)) [w] k
theorem eq306 (T : List PV) (a ln : Int) (κ : PV → Cell → List Cell → Out) : (SXO lf pf mf).mf 306 (rC T a ln) [] κ = cmR (QX lf pf mf) [rC T a ln] "kind" [] fun v σ => opt (cmp σ .Eq v (.str (sOf "literal"))) fun c => br c
  (cmR (QX lf pf mf) σ "take" [] fun t σ => sub σ t (.int 1) fun w => f306 (QX lf pf mf) σ w fun v σ => binop .Add (.str (sOf "[")) v fun v => binop .Add v (.str (sOf "]")) fun v => kM κ v σ)
  (pM (QX lf pf mf) (stAt 29) 1 κ [some (.cell 0), none, none] σ) := by kernel_rfl
theorem a306 (C : Cell) (κ : PV → Cell → List Cell → Out) : pM (QX lf pf mf) (stAt 29) 1 κ [some (.cell 0), none, none] [C] = whileL lf (tW (QX lf pf mf) (stAt 29) 2) (bW (QX lf pf mf) (kM κ) (stAt 29) 2 0) [some (.cell 0), some (.cell 1), none] [C, .list []] (pM (QX lf pf mf) (stAt 29) 3 κ) := by kernel_rfl
theorem t306 (σ : List Cell) (m : Loc) (k : KB) : tW (QX lf pf mf) (stAt 29) 2 m σ k = k true σ := by kernel_rfl
theorem b306 (T : List PV) (a ln : Int) (l : List PV) (κ : PV → Cell → List Cell → Out) (k : KS) : bW (QX lf pf mf) (kM κ) (stAt 29) 2 0 [some (.cell 0), some (.cell 1), none] [rC T a ln, .list l] k = cmR (QX lf pf mf) [rC T a ln, .list l] "kind" [] fun v σ => opt (cmp σ .NotEq v (.str (sOf "atom"))) fun c => br c
  (cmR (QX lf pf mf) σ "fault" [.str (sOf "a domain is missing")] fun v σ => br (isExc σ v) .exc .stuck)
  (br (preM (QX lf pf mf) σ (.cell 1) (sOf "append")) (cmR (QX lf pf mf) σ "take" [] fun t σ => sub σ t (.int 1) fun w => f306 (QX lf pf mf) σ w fun v σ => callM (QX lf pf mf) σ (.cell 1) (sOf "append") [v] fun ζ σ =>
    cmR (QX lf pf mf) σ "skip" [bB [46]] (kB fun c σ => br (!c) (callM (QX lf pf mf) σ (.str (sOf ".")) (sOf "join") [.cell 1] (kM κ)) (k [some (.cell 0), some (.cell 1), none] σ))) .stuck) := by kernel_rfl
theorem pre_app (C : Cell) (l : List PV) : preM (QX lf pf mf) [C, .list l] (.cell 1) (sOf "append") = true := by kernel_rfl
theorem app_s (T : List PV) (a ln : Int) (l : List PV) (s : Str) (k : KV) : callM (QX lf pf mf) [rC T a ln, .list l] (.cell 1) (sOf "append") [.str s] k = br (decide (l.length < LIM)) (k .none [rC T a ln, .list (l ++ [.str s])]) .stuck := by kernel_rfl
theorem f306_1 (T : List PV) (a ln : Int) (l : List PV) (w : Array UInt8) (k : KV) : f306 (QX lf pf mf) [rC T a ln, .list l] (.bytes w) k = pf 210 [.bytes w] fun v fr => retK [rC T a ln, .list l] v fr k := by kernel_rfl
theorem f306_0 (T : List PV) (a ln : Int) (w : Array UInt8) (k : KV) : f306 (QX lf pf mf) [rC T a ln] (.bytes w) k = pf 210 [.bytes w] fun v fr => retK [rC T a ln] v fr k := by kernel_rfl
theorem join306 (T : List PV) (a ln : Int) (l : List PV) (κ : PV → Cell → List Cell → Out) : callM (QX lf pf mf) [rC T a ln, .list l] (.str (sOf ".")) (sOf "join") [.cell 1] (kM κ) = opt (strsOf l) fun bs => br (jFit 1 (bs.map (·.length))) (κ (.str ⟨(sJoin [46] bs).toArray⟩) (rC T a ln) []) .stuck := by kernel_rfl
theorem sJoin_tx : ∀ l : List (List UInt8), sJoin [46] (l.map tx) = (jn [46] l).map UInt8.toNat
  | [] => rfl
  | [x] => rfl
  | x :: y :: l => by
    have := sJoin_tx (y :: l)
    show x.map UInt8.toNat ++ [46] ++ sJoin [46] ((y :: l).map tx) = _
    rw [this]
    show _ = (x ++ [46] ++ jn [46] (y :: l)).map UInt8.toNat
    simp
theorem tx_len (x : List UInt8) : (tx x).length = x.length := by
  show (x.map UInt8.toNat).toArray.size = _
  simp
theorem joined_s {acc : List (List UInt8)} (h : acc.flatten.length ≤ szB) (h2 : acc.length ≤ szB) (k : Str → Out) : (opt (strsOf (acc.map fun w => .str (tx w))) fun bs => br (jFit 1 (bs.map (·.length))) (k ⟨(sJoin [46] bs).toArray⟩) .stuck) = k (tx (jn [46] acc)) := by
  have hl := lim_big
  have : acc.map (fun w => PV.str (tx w)) = (acc.map tx).map .str := by simp
  rw [this, strsOf_map, opt_s, sJoin_tx, jFit_ok]
  · rfl
  · have : (acc.map tx).map (·.length) = acc.map List.length := by
      rw [List.map_map]
      exact List.map_congr_left fun x ζ => tx_len x
    rw [this, sum_flatten, List.length_map]
    exact chk [_,_,_,_] (.h 1 (.v 0) (.v 3) (.h 1 (.v 1) (.v 3) (.h 1 (.r (.v 3) 100) (.v 2) .z))) 1 (.a (.v 0) (.r (.v 1) 1)) (.v 2) rfl h h2 hl
noncomputable def M306 (mf : MF) : Prop := ∀ (T r : List Tok) (ln : Int) (κ : PV → Cell → List Cell → Out), r <:+ T → sz r ≤ szB → mf 306 (rd T r ln) [] κ =
  match domainP r with
  | none => .exc
  | some (w, r') => κ (.str (tx w)) (rd T r' ln) []
theorem is_atm (t : Tok) (σ : List Cell) : cmp σ .NotEq (.str (nmK t.kd)) (.str (sOf "atom")) = some (!decide (t.kd = .atom)) := by
  obtain ⟨kd, w, a⟩ := t
  cases kd <;> kernel_rfl
theorem no_atm (σ : List Cell) : cmp σ .NotEq (.str (kindP [])) (.str (sOf "atom")) = some true := by kernel_rfl
theorem eq_lit (t : Tok) (σ : List Cell) : cmp σ .Eq (.str (nmK t.kd)) (.str (sOf "literal")) = some (decide (t.kd = .literal)) := by
  obtain ⟨kd, w, a⟩ := t
  cases kd <;> kernel_rfl
theorem no_lit (σ : List Cell) : cmp σ .Eq (.str (kindP [])) (.str (sOf "literal")) = some false := by kernel_rfl
theorem rK2 (C : Cell) (σ : List Cell) (k : KV) : retK σ (.cell 0) [.exc] k = k (.cell σ.length) (σ ++ [.exc]) := rfl
theorem lp306 (h243 : M243 mf) (h257 : M257 mf) (h264 : M264 mf) (h271 : M271 mf) (h210 : S210 pf) (T : List Tok) (ln : Int) (κ : PV → Cell → List Cell → Out) : ∀ (n : Nat) (r : List Tok) (acc : List (List UInt8)), r <:+ T → r.length < n → acc.length + sz r ≤ szB → acc.flatten.length + sz r ≤ szB →
    whileL n (tW (QX lf pf mf) (stAt 29) 2) (bW (QX lf pf mf) (kM κ) (stAt 29) 2 0) [some (.cell 0), some (.cell 1), none] [rd T r ln, .list (acc.map fun w => .str (tx w))] (pM (QX lf pf mf) (stAt 29) 3 κ) =
    match domL r with
    | none => .exc
    | some (p, r') => κ (.str (tx (jn [46] (acc ++ p)))) (rd T r' ln) []
  | 0, r, acc, s, hn, _, _ => absurd hn (Nat.not_lt_zero _)
  | n + 1, r, acc, s, hn, h1, h2 => by
    have hl := lim_big
    rw [whileL, t306, br_t, b306, cm_k, h243 T r ln _ s, rK]
    have flt : ∀ (σl : List PV), (cmR (QX lf pf mf) [rd T r ln, .list σl] "fault" [.str (sOf "a domain is missing")] fun v σ => br (isExc σ v) .exc .stuck) = .exc := fun σl => by
      rw [cm_f, h271 T r ln _ _ s]; rfl
    induction r using List.casesOn with
    | nil => rw [flt]; rfl
    | cons t r =>
      rw [sz_cons] at h1 h2
      simp only [List.length_cons] at hn
      have hls := len_sz r
      rw [show kindP (t :: r) = nmK t.kd from rfl, is_atm, opt_s]
      by_cases hk : t.kd = .atom
      · have s1 := suf_tail s
        have q210 := fun κ => h210 t.w κ (by exact chk [_,_,_,_] (.h 1 (.a (.v 2) (.a (.a (.v 0) (.n 1)) (.v 3))) (.v 1) .z) 1 (.v 0) (.v 1) rfl h2)
        have q264 := fun κ => h264 T r ln [46] κ s1
        unfold bB at q210 q264
        rw [decide_eq_true hk, cm_t, h257 T r t ln _ s]
        show f306 (QX lf pf mf) [rd T r ln, .list (acc.map fun w => .str (tx w))] (.bytes t.w.toArray) _ = _
        rw [f306_1, q210, rK, app_s, decide_eq_true (by rw [List.length_map]; exact chk [_,_,_,_,_] (.h 1 (.r (.v 2) 100) (.v 1) (.h 1 (.a (.v 0) (.a (.a (.v 3) (.n 1)) (.v 4))) (.v 2) .z)) 1 (.a (.v 0) (.n 1)) (.v 1) rfl hl h1)]
        show cmR (QX lf pf mf) [rd T r ln, .list (acc.map (fun w => .str (tx w)) ++ [.str (tx t.w)])] "skip" [.bytes [46].toArray] _ = _
        rw [cm_x, q264, rK, kB_b]
        have done : ∀ r' , (callM (QX lf pf mf) [rd T r' ln, .list (acc.map (fun w => .str (tx w)) ++ [.str (tx t.w)])] (.str (sOf ".")) (sOf "join") [.cell 1] (kM κ)) = κ (.str (tx (jn [46] (acc ++ [t.w])))) (rd T r' ln) [] := fun r' => by
          skip
          have := joined_s (acc := acc ++ [t.w]) (by rw [flat1]; exact chk [_,_,_,_] (.h 1 (.a (.v 0) (.a (.a (.v 1) (.n 1)) (.v 3))) (.v 2) .z) 1 (.a (.v 0) (.v 1)) (.v 2) rfl h2) (by simp; exact chk [_,_,_,_] (.h 1 (.a (.v 0) (.a (.a (.v 2) (.n 1)) (.v 3))) (.v 1) .z) 1 (.a (.v 0) (.n 1)) (.v 1) rfl h1) (fun s => κ (.str s) (rd T r' ln) [])
          rw [List.map_append] at this
          exact this
        unfold domL
        rw [if_pos hk]
        unfold skipP
        induction r using List.casesOn with
        | nil => exact done []
        | cons p r =>
          dsimp only
          induction hp : standsP [46] (p :: r) using Bool.casesOn with
          | false =>
            skip
            exact done _
          | true =>
            skip
            rw [sz_cons] at h1 h2
            simp only [List.length_cons] at hn
            have := lp306 h243 h257 h264 h271 h210 T ln κ n r (acc ++ [t.w]) (suf_tail s1) (by exact Nat.le_of_lt (Nat.lt_of_succ_lt_succ hn)) (by simp; exact chk [_,_,_,_,_] (.h 1 (.a (.v 0) (.a (.a (.v 3) (.n 1)) (.a (.a (.v 4) (.n 1)) (.v 1)))) (.v 2) .z) 1 (.a (.a (.v 0) (.n 1)) (.v 1)) (.v 2) rfl h1) (by rw [flat1]; exact chk [_,_,_,_,_] (.h 1 (.a (.v 0) (.a (.a (.v 1) (.n 1)) (.a (.a (.v 4) (.n 1)) (.v 2)))) (.v 3) .z) 1 (.a (.a (.v 0) (.v 1)) (.v 2)) (.v 3) rfl h2)
            rw [List.map_append] at this
            refine Eq.trans this ?_
            induction domL r using Option.casesOn with
            | none => rfl
            | some q => simp
      · rw [decide_eq_false hk, Bool.not_false, br_t, flt]
        unfold domL
        rw [if_neg hk]
theorem m306 (hlf : szB < lf) (h243 : M243 mf) (h257 : M257 mf) (h264 : M264 mf) (h271 : M271 mf) (h210 : S210 pf) : M306 (SXO lf pf mf).mf := fun T r ln κ s h => by
  have hl := lim_big
  have h0 : 10 ≤ szB := by decide
  have hz := len_sz r
  have loop := lp306 (lf := lf) h243 h257 h264 h271 h210 T ln κ lf r [] s (by exact Nat.lt_of_le_of_lt (Nat.le_trans hz h) hlf) (by simp; exact h) (by simp; exact h)
  rw [eq306, cm0_k, h243 T r ln _ s, rK]
  induction r using List.casesOn with
  | nil => skip; exact loop
  | cons t r =>
    rw [sz_cons] at h
    have s1 := suf_tail s
    rw [show kindP (t :: r) = nmK t.kd from rfl, eq_lit, opt_s]
    rw [show domainP (t :: r) = if t.kd = .literal then some (91 :: t.w ++ [93], r) else (domL (t :: r)).map fun q => (jn [46] q.1, q.2) from rfl]
    by_cases hk : t.kd = .literal
    · have q210 := fun κ => h210 t.w κ (by exact chk [_,_,_] (.h 1 (.a (.a (.v 0) (.n 1)) (.v 2)) (.v 1) .z) 1 (.v 0) (.v 1) rfl h)
      unfold bB at q210
      rw [decide_eq_true hk, if_pos hk, cm0_t, h257 T r t ln _ s]
      show f306 (QX lf pf mf) [rd T r ln] (.bytes t.w.toArray) _ = _
      rw [f306_0, q210, rK]
      have e1 : ∀ (a b : Str) (k : PV → Out), a.length + b.length ≤ LIM → binop .Add (.str a) (.str b) k = k (.str (a ++ b)) := fun a b k h => by
        show br (decide (a.length + b.length ≤ LIM)) _ _ = _
        rw [decide_eq_true h, br_t]
      have l1 : (sOf "[").length = 1 := by kernel_rfl
      have l2 : (sOf "]").length = 1 := by kernel_rfl
      have e2 : sOf "[" ++ tx t.w ++ sOf "]" = tx (91 :: t.w ++ [93]) := by
        have a1 : sOf "[" = ⟨[91].toArray⟩ := by kernel_rfl
        have a2 : sOf "]" = ⟨[93].toArray⟩ := by kernel_rfl
        skip
        show (⟨[91].toArray ++ (t.w.map UInt8.toNat).toArray ++ [93].toArray⟩ : Str) = ⟨((91 :: t.w ++ [93]).map UInt8.toNat).toArray⟩
        congr 1
        simp
      have l3 : (sOf "[" ++ tx t.w).length = t.w.length + 1 := by
        have a1 : sOf "[" = ⟨[91].toArray⟩ := by kernel_rfl
        skip
        show ([91].toArray ++ (t.w.map UInt8.toNat).toArray).size = _
        simp
      rw [e1 _ _ _ (by rw [tx_len]; exact chk [_,_,_,_] (.h 1 (.r (.v 2) 100) (.v 1) (.h 1 (.a (.a (.v 0) (.n 1)) (.v 3)) (.v 2) .z)) 1 (.a (.n 1) (.v 0)) (.v 1) rfl hl h), e1 _ _ _ (by rw [l3]; exact chk [_,_,_,_] (.h 1 (.r (.v 2) 100) (.v 1) (.h 2 (.a (.a (.v 0) (.n 1)) (.v 3)) (.v 2) .z)) 1 (.a (.a (.v 0) (.n 1)) (.n 1)) (.v 1) rfl hl h), e2]
      rfl
    · rw [decide_eq_false hk, if_neg hk]
      refine Eq.trans loop ?_
      induction domL (t :: r) using Option.casesOn with
      | none => rfl
      | some q => rfl
end Mine
end
section
set_option maxRecDepth 100000
namespace Mine
open PySem
variable {lf : Nat} {pf : PF} {mf : MF}

noncomputable abbrev cf (Q : Orc) (σ : List Cell) (a : Nat) (args : List PV) (k : KV) : Out := callF Q σ (.raw (.ref a)) args k
theorem sz_suf {r r' : List Tok} (h : r' <:+ r) : sz r' ≤ sz r := by
  obtain ⟨p, rfl⟩ := h
  unfold sz
  rw [List.map_append, List.sum_append]
  exact chk [_,_] .z 1 (.v 0) (.a (.v 1) (.v 0)) rfl
theorem sz_tail (r : List Tok) : sz r.tail ≤ sz r := sz_suf (List.tail_suffix r)
theorem sz_take (r : List Tok) : sz (wordsP r) ≤ sz r := by
  unfold wordsP
  induction r with
  | nil => exact Nat.le_refl _
  | cons t r ih =>
    rw [List.takeWhile_cons]
    split <;> simp only [sz_cons] <;> simp [sz] at * <;> omega
theorem rest_suf (r : List Tok) : restP r <:+ r := List.dropWhile_suffix _
theorem stands_tail {s : List UInt8} {r : List Tok} (h : standsP s r = true) : r.tail.length < r.length := by
  induction r using List.casesOn with
  | nil => exact nft h
  | cons t r => simp
theorem domL_suf : ∀ {r : List Tok} {p : List (List UInt8)} {r' : List Tok}, domL r = some (p, r') → r' <:+ r ∧ r'.length < r.length
  | [], p, r', h => by cases h
  | [t], p, r', h => by
    unfold domL at h
    split at h
    · cases h; exact ⟨List.suffix_cons _ _, by simp⟩
    · exact nns h
  | t :: q :: r, p, r', h => by
    unfold domL at h
    split at h
    · dsimp only at h
      split at h
      · induction e : domL r using Option.casesOn with
        | none => rw [e] at h; exact nns h
        | some x =>
          rw [e] at h; cases h
          obtain ⟨a, b⟩ := domL_suf e
          exact ⟨(a.trans (List.suffix_cons _ _)).trans (List.suffix_cons _ _), by simp only [List.length_cons]; exact chk [_,_] (.h 1 (.a (.v 0) (.n 1)) (.v 1) .z) 1 (.a (.v 0) (.n 1)) (.a (.a (.v 1) (.n 1)) (.n 1)) rfl b⟩
      · cases h; exact ⟨List.suffix_cons _ _, by simp⟩
    · exact nns h
theorem domainP_suf {r : List Tok} {w : List UInt8} {r' : List Tok} (h : domainP r = some (w, r')) : r' <:+ r ∧ r'.length < r.length := by
  induction r using List.casesOn with
  | nil => exact nns h
  | cons t r =>
    rw [show domainP (t :: r) = if t.kd = .literal then some (91 :: t.w ++ [93], r) else (domL (t :: r)).map fun q => (jn [46] q.1, q.2) from rfl] at h
    split at h
    · cases h; exact ⟨List.suffix_cons _ _, by simp⟩
    · induction e : domL (t :: r) using Option.casesOn with
      | none => rw [e] at h; exact nns h
      | some x => rw [e] at h; cases h; exact domL_suf e

/- 313 pass_route -/
noncomputable def routeL : Nat → List Tok → Option (List Tok)
  | 0, _ => none
  | n + 1, r => if standsP [58] r then some r.tail else if standsP [44] r then routeL n r.tail else if standsP [64] r then (match domainP r.tail with
    | none => none
    | some (_, r') => routeL n r') else none
noncomputable def routeP (r : List Tok) : Option (List Tok) := if standsP [64] r || standsP [44] r then routeL (r.length + 1) r else some r
theorem routeL_suf : ∀ {n : Nat} {r r' : List Tok}, routeL n r = some r' → r' <:+ r
  | 0, r, r', h => by cases h
  | n + 1, r, r', h => by
    unfold routeL at h
    split at h
    · cases h; exact List.tail_suffix r
    · split at h
      · exact (routeL_suf h).trans (List.tail_suffix r)
      · split at h
        · split at h
          · exact nns h
          · rename_i e
            exact ((routeL_suf h).trans (domainP_suf e).1).trans (List.tail_suffix r)
        · exact nns h
theorem routeP_suf {r r' : List Tok} (h : routeP r = some r') : r' <:+ r := by
  unfold routeP at h
  split at h
  · exact routeL_suf h
  · cases h; exact List.suffix_refl _
noncomputable abbrev m313 : Loc := [some (.cell 0), none]
theorem eq313 (T : List PV) (a ln : Int) (κ : PV → Cell → List Cell → Out) : (SXO lf pf mf).mf 313 (rC T a ln) [] κ = cmR (QX lf pf mf) [rC T a ln] "stands" [bB [64]] (kB fun c σ => br (!c) (cmR (QX lf pf mf) σ "stands" [bB [44]] (kB fun c σ => br (!c) (kM κ .none σ) (pM (QX lf pf mf) (stAt 30) 1 κ m313 σ))) (pM (QX lf pf mf) (stAt 30) 1 κ m313 σ)) := by kernel_rfl
theorem a313 (σ : List Cell) (κ : PV → Cell → List Cell → Out) : pM (QX lf pf mf) (stAt 30) 1 κ m313 σ = whileL lf (tW (QX lf pf mf) (stAt 30) 1) (bW (QX lf pf mf) (kM κ) (stAt 30) 1 0) m313 σ (pM (QX lf pf mf) (stAt 30) 2 κ) := by kernel_rfl
theorem t313 (T : List PV) (a ln : Int) (k : KB) : tW (QX lf pf mf) (stAt 30) 1 m313 [rC T a ln] k = cmR (QX lf pf mf) [rC T a ln] "skip" [bB [58]] (kB fun c σ => k (!c) σ) := by kernel_rfl
theorem b313 (T : List PV) (a ln : Int) (κ : PV → Cell → List Cell → Out) (k : KS) : bW (QX lf pf mf) (kM κ) (stAt 30) 1 0 m313 [rC T a ln] k = cmR (QX lf pf mf) [rC T a ln] "skip" [bB [44]] (kB fun c σ => br (!c) (cmR (QX lf pf mf) σ "need" [bB [64]] fun ζ σ => cf (QX lf pf mf) σ 306 [.cell 0] fun ζ σ => k m313 σ) (k m313 σ)) := by kernel_rfl
theorem p313 (T : List PV) (a ln : Int) (κ : PV → Cell → List Cell → Out) : pM (QX lf pf mf) (stAt 30) 2 κ m313 [rC T a ln] = κ .none (rC T a ln) [] := by kernel_rfl
theorem cf306 (T : List PV) (a ln : Int) (k : KV) : cf (QX lf pf mf) [rC T a ln] 306 [.cell 0] k = mf 306 (rC T a ln) [] fun v c fr => retK [c] v fr k := by kernel_rfl
noncomputable def M313 (mf : MF) : Prop := ∀ (T r : List Tok) (ln : Int) (κ : PV → Cell → List Cell → Out), r <:+ T → sz r ≤ szB → mf 313 (rd T r ln) [] κ =
  match routeP r with
  | none => .exc
  | some r' => κ .none (rd T r' ln) []
theorem lp313 (h264 : M264 mf) (h278 : M278 mf) (h306 : M306 mf) (T : List Tok) (ln : Int) (κ : PV → Cell → List Cell → Out) : ∀ (n m : Nat) (r : List Tok), r <:+ T → r.length < n → r.length < m → sz r ≤ szB →
    whileL n (tW (QX lf pf mf) (stAt 30) 1) (bW (QX lf pf mf) (kM κ) (stAt 30) 1 0) m313 [rd T r ln] (pM (QX lf pf mf) (stAt 30) 2 κ) =
    match routeL m r with
    | none => .exc
    | some r' => κ .none (rd T r' ln) []
  | 0, m, r, s, hn, _, _ => absurd hn (Nat.not_lt_zero _)
  | n + 1, 0, r, s, _, hm, _ => absurd hm (Nat.not_lt_zero _)
  | n + 1, m + 1, r, s, hn, hm, hz => by
    have q264 := fun κ => h264 T r ln [58] κ s
    have q264b := fun κ => h264 T r ln [44] κ s
    have q278 := fun κ => h278 T r ln [64] κ s (by decide)
    have st := (List.tail_suffix r).trans s
    have := sz_tail r
    rw [whileL, t313]
    unfold bB at q264 q264b q278 ⊢
    rw [cm0_x, q264, rK, kB_b]
    unfold routeL skipP
    induction h1 : standsP [58] r using Bool.casesOn with
    | true => rw [Bool.not_true, br_f, if_pos rfl, if_pos rfl, p313]
    | false =>
      rw [Bool.not_false, br_t, if_neg Bool.false_ne_true, b313]
      unfold bB
      rw [cm0_x, q264b, rK, kB_b]
      unfold skipP
      induction h2 : standsP [44] r using Bool.casesOn with
      | true =>
        have := stands_tail h2
        skip
        exact lp313 h264 h278 h306 T ln κ n m r.tail st (by exact Nat.lt_of_lt_of_le this (Nat.le_of_lt_succ hn)) (by exact Nat.lt_of_lt_of_le this (Nat.le_of_lt_succ hm)) (by exact Nat.le_trans (by assumption) hz)
      | false =>
        rw [Bool.not_false, br_t, if_neg Bool.false_ne_true]
        rw [cm0_n, q278]
        induction h3 : standsP [64] r using Bool.casesOn with
        | false => rfl
        | true =>
          have := stands_tail h3
          rw [rK, cf306, h306 T r.tail ln _ st (by exact Nat.le_trans (by assumption) hz)]
          induction e : domainP r.tail using Option.casesOn with
          | none => rfl
          | some x =>
            refine nn fun nG => ?_
            obtain ⟨sd, ld⟩ := domainP_suf e
            refine nG ?_
            have := sz_suf sd
            exact lp313 h264 h278 h306 T ln κ n m x.2 (sd.trans st) (by exact Nat.lt_of_lt_of_le (Nat.lt_trans ld (by assumption)) (Nat.le_of_lt_succ hn)) (by exact Nat.lt_of_lt_of_le (Nat.lt_trans ld (by assumption)) (Nat.le_of_lt_succ hm)) (by exact Nat.le_trans (Nat.le_trans this (by assumption)) hz)
theorem m313_ok (hlf : szB < lf) (h250 : M250 mf) (h264 : M264 mf) (h278 : M278 mf) (h306 : M306 mf) : M313 (SXO lf pf mf).mf := fun T r ln κ s hz => by
  have q1 := fun κ => h250 T r ln [64] κ s
  have q2 := fun κ => h250 T r ln [44] κ s
  have := len_sz r
  have loop := lp313 (lf := lf) (pf := pf) h264 h278 h306 T ln κ lf (r.length + 1) r s (by exact Nat.lt_of_le_of_lt (Nat.le_trans this hz) hlf) (by exact Nat.lt_succ_self _) hz
  unfold bB at q1 q2
  rw [eq313]
  unfold bB
  rw [cm0_s, q1, rK, kB_b, a313]
  unfold routeP
  induction standsP [64] r using Bool.casesOn with
  | true => skip; exact loop
  | false =>
    rw [Bool.false_or, cm0_s, q2, rK, kB_b]
    induction standsP [44] r using Bool.casesOn with
    | true => skip; exact loop
    | false => rfl

/- 320 read_mailbox -/
structure Mb where
  nm : List UInt8
  lo : List UInt8
  dm : List UInt8
noncomputable def encM (m : Mb) : PV := mbx (.str (tx m.nm)) (.str (tx m.lo)) (.str (tx m.dm))
noncomputable def finP (nm : List UInt8) (ang : Bool) (ws r : List Tok) : Option (Mb × List Tok) := match localP 0 ws with
  | none => none
  | some lo => if ws.length % 2 = 0 then none else if standsP [64] r then (match domainP r.tail with
    | none => none
    | some (d, r2) => if ang then (if standsP [62] r2 then some (⟨nm, lo.flatten, d⟩, r2.tail) else none) else some (⟨nm, lo.flatten, d⟩, r2)) else none
noncomputable def mailboxP (ws r : List Tok) : Option (Mb × List Tok) := if standsP [60] r then (match phraseP 0 false (ws.filter notC) with
  | none => none
  | some nm => match routeP r.tail with
    | none => none
    | some r1 => finP nm.flatten true (wordsP r1) (restP r1)) else finP [] false ws r
set_option tactic.hygienic true in
theorem finP_suf {nm : List UInt8} {ang : Bool} {ws r : List Tok} {m : Mb} {r' : List Tok} (h : finP nm ang ws r = some (m, r')) : r' <:+ r ∧ r'.length < r.length := by
  unfold finP at h
  split at h
  · exact nns h
  split at h
  · exact nns h
  split at h
  · rename_i hs
    have ht := stands_tail hs
    have st := List.tail_suffix r
    split at h
    · exact nns h
    · rename_i d r2 e
      obtain ⟨sd, ld⟩ := domainP_suf e
      split at h
      · split at h
        · cases h
          have := (List.tail_suffix r2).length_le
          exact ⟨((List.tail_suffix r2).trans sd).trans st, by exact Nat.lt_trans (Nat.lt_of_le_of_lt this ld) ht⟩
        · exact nns h
      · cases h; exact ⟨sd.trans st, by exact Nat.lt_trans ld ht⟩
  · exact nns h
set_option tactic.hygienic true in
theorem mailboxP_suf {ws r : List Tok} {m : Mb} {r' : List Tok} (h : mailboxP ws r = some (m, r')) : r' <:+ r ∧ r'.length < r.length := by
  unfold mailboxP at h
  split at h
  · split at h
    · exact nns h
    · split at h
      · exact nns h
      · rename_i hs _ _ _ _ r1 e
        obtain ⟨a, b⟩ := finP_suf h
        have := (rest_suf r1).length_le
        have s2 := (routeP_suf e).trans (List.tail_suffix r)
        have := s2.length_le
        exact ⟨(a.trans (rest_suf r1)).trans s2, by exact Nat.lt_of_lt_of_le (Nat.lt_of_lt_of_le b (by assumption)) this⟩
  · exact finP_suf h
noncomputable abbrev m320 (ws nm ia lo dm : Option PV) : Loc := [some (.cell 0), ws, nm, ia, lo, dm, none, none, none, none, none, none]
theorem eq320 (T ws : List PV) (a ln : Int) (κ : PV → Cell → List Cell → Out) : (SXO lf pf mf).mf 320 (rC T a ln) [.lst ws] κ = cmR (QX lf pf mf) [rC T a ln] "skip" [bB [60]] fun v σ => pM (QX lf pf mf) (stAt 31) 2 κ (m320 (some (.lst ws)) (some (.str (sOf ""))) (some v) none none) σ := by kernel_rfl
theorem a320 (T ws : List PV) (a ln : Int) (nm : PV) (b : Bool) (κ : PV → Cell → List Cell → Out) : pM (QX lf pf mf) (stAt 31) 2 κ (m320 (some (.lst ws)) (some nm) (some (.bool b)) none none) [rC T a ln] = br b
  (pf 130 [.lst ws] fun v fr => retK [rC T a ln] v fr fun v σ => cf (QX lf pf mf) σ 210 [v] fun v σ => cf (QX lf pf mf) σ 313 [.cell 0] fun ζ σ => cmR (QX lf pf mf) σ "words" [] fun w σ => pM (QX lf pf mf) (stAt 31) 3 κ (m320 (some w) (some v) (some (.bool b)) none none) σ)
  (pM (QX lf pf mf) (stAt 31) 3 κ (m320 (some (.lst ws)) (some nm) (some (.bool b)) none none) [rC T a ln]) := by kernel_rfl
theorem b320 (T ws : List PV) (a ln : Int) (nm : PV) (b : Bool) (κ : PV → Cell → List Cell → Out) : pM (QX lf pf mf) (stAt 31) 3 κ (m320 (some (.lst ws)) (some nm) (some (.bool b)) none none) [rC T a ln] =
  mf 299 (rC T a ln) [.lst ws] fun v c fr => retK [c] v fr fun v σ => pM (QX lf pf mf) (stAt 31) 4 κ (m320 (some (.lst ws)) (some nm) (some (.bool b)) (some v) none) σ := by kernel_rfl
theorem c320 (T : List PV) (a ln : Int) (ws nm lo : PV) (b : Bool) (κ : PV → Cell → List Cell → Out) : pM (QX lf pf mf) (stAt 31) 4 κ (m320 (some ws) (some nm) (some (.bool b)) (some lo) none) [rC T a ln] =
  cmR (QX lf pf mf) [rC T a ln] "need" [bB [64]] fun ζ σ => pM (QX lf pf mf) (stAt 31) 5 κ (m320 (some ws) (some nm) (some (.bool b)) (some lo) none) σ := by kernel_rfl
theorem d320 (T : List PV) (a ln : Int) (ws nm lo : PV) (b : Bool) (κ : PV → Cell → List Cell → Out) : pM (QX lf pf mf) (stAt 31) 5 κ (m320 (some ws) (some nm) (some (.bool b)) (some lo) none) [rC T a ln] =
  mf 306 (rC T a ln) [] fun v c fr => retK [c] v fr fun v σ => pM (QX lf pf mf) (stAt 31) 6 κ (m320 (some ws) (some nm) (some (.bool b)) (some lo) (some v)) σ := by kernel_rfl
theorem e320 (T : List PV) (a ln : Int) (ws nm lo dm : PV) (b : Bool) (κ : PV → Cell → List Cell → Out) : pM (QX lf pf mf) (stAt 31) 6 κ (m320 (some ws) (some nm) (some (.bool b)) (some lo) (some dm)) [rC T a ln] = br b
  (cmR (QX lf pf mf) [rC T a ln] "need" [bB [62]] fun ζ σ => pM (QX lf pf mf) (stAt 31) 7 κ (m320 (some ws) (some nm) (some (.bool b)) (some lo) (some dm)) σ)
  (pM (QX lf pf mf) (stAt 31) 7 κ (m320 (some ws) (some nm) (some (.bool b)) (some lo) (some dm)) [rC T a ln]) := by kernel_rfl
theorem f320 (T : List PV) (a ln : Int) (ws : PV) (nm lo dm : Str) (b : Bool) (κ : PV → Cell → List Cell → Out) : pM (QX lf pf mf) (stAt 31) 7 κ (m320 (some ws) (some (.str nm)) (some (.bool b)) (some (.str lo)) (some (.str dm))) [rC T a ln] = κ (mbx (.str nm) (.str lo) (.str dm)) (rC T a ln) [] := by kernel_rfl
theorem cf210 (T : List PV) (a ln : Int) (w : Array UInt8) (k : KV) : cf (QX lf pf mf) [rC T a ln] 210 [.bytes w] k = pf 210 [.bytes w] fun v fr => retK [rC T a ln] v fr k := by kernel_rfl
theorem cf313 (T : List PV) (a ln : Int) (k : KV) : cf (QX lf pf mf) [rC T a ln] 313 [.cell 0] k = mf 313 (rC T a ln) [] fun v c fr => retK [c] v fr k := by kernel_rfl
theorem phraseP_len : ∀ {ts : List Tok} {g : Int} {st : Bool} {p : List (List UInt8)}, phraseP g st ts = some p → p.flatten.length ≤ 2 * sz ts
  | [], g, st, p, h => by cases h; simp
  | t :: ts, g, st, p, h => by
    unfold phraseP at h
    split at h
    · induction e : phraseP (if isPt t then t.at_ + 1 else -1) true ts using Option.casesOn with
      | none => rw [e] at h; exact nns h
      | some q =>
        rw [e] at h; cases h
        have := phraseP_len e
        skip
        split <;> simp <;> simp at this <;> (first | exact chk [_,_,_] (.h 1 (.v 1) (.m 2 (.v 2)) .z) 1 (.a (.a (.v 0) (.v 1)) (.n 1)) (.m 2 (.a (.a (.v 0) (.n 1)) (.v 2))) rfl this | exact chk [_,_,_] (.h 1 (.v 1) (.m 2 (.v 2)) .z) 1 (.a (.v 0) (.v 1)) (.m 2 (.a (.a (.v 0) (.n 1)) (.v 2))) rfl this)
    · exact nns h
noncomputable def M320 (mf : MF) : Prop := ∀ (T r : List Tok) (ln : Int) (ws : List Tok) (κ : PV → Cell → List Cell → Out), r <:+ T → 2 * sz ws ≤ szB → 2 * sz r ≤ szB → mf 320 (rd T r ln) [.lst (ws.map enc)] κ =
  match mailboxP ws r with
  | none => .exc
  | some (m, r') => κ (encM m) (rd T r' ln) []
theorem fin320 (h299 : M299 mf) (h278 : M278 mf) (h306 : M306 mf) (T r : List Tok) (ln : Int) (ws : List Tok) (nm : List UInt8) (b : Bool) (κ : PV → Cell → List Cell → Out) (s : r <:+ T) (h1 : 2 * sz ws ≤ szB) (h2 : 2 * sz r ≤ szB) :
    pM (QX lf pf mf) (stAt 31) 3 κ (m320 (some (.lst (ws.map enc))) (some (.str (tx nm))) (some (.bool b)) none none) [rd T r ln] =
    match finP nm b ws r with
    | none => .exc
    | some (m, r') => κ (encM m) (rd T r' ln) [] := by
  have q278 := fun κ => h278 T r ln [64] κ s (by decide)
  have st := (List.tail_suffix r).trans s
  have := sz_tail r
  rw [b320, h299 T r ln ws _ s h1]
  unfold finP
  induction localP 0 ws using Option.casesOn with
  | none => rfl
  | some lo =>
    dsimp only
    by_cases hp : ws.length % 2 = 0
    · rw [if_pos hp, if_pos hp]
    · rw [if_neg hp, if_neg hp, rK, c320]
      unfold bB at q278 ⊢
      rw [cm0_n, q278]
      induction standsP [64] r using Bool.casesOn with
      | false => rfl
      | true =>
        rw [if_pos rfl, if_pos rfl, rK, d320, h306 T r.tail ln _ st (by exact chk [_,_,_] (.h 1 (.m 2 (.v 2)) (.v 1) (.h 1 (.v 0) (.v 2) .z)) 1 (.v 0) (.v 1) rfl h2 this)]
        induction e : domainP r.tail using Option.casesOn with
        | none => rfl
        | some x =>
          obtain ⟨sd, ld⟩ := domainP_suf e
          have sx := sd.trans st
          have q2 := fun κ => h278 T x.2 ln [62] κ sx (by decide)
          unfold bB at q2
          dsimp only
          rw [rK, e320]
          induction b using Bool.casesOn with
          | false => skip; rfl
          | true =>
            skip
            unfold bB
            rw [cm0_n, q2]
            induction standsP [62] x.2 using Bool.casesOn with
            | false => rfl
            | true => skip; rfl
theorem m320_ok (h130 : S130 pf) (h210 : S210 pf) (h264 : M264 mf) (h278 : M278 mf) (h285 : M285 mf) (h299 : M299 mf) (h306 : M306 mf) (h313 : M313 mf) : M320 (SXO lf pf mf).mf := fun T r ln ws κ s h1 h2 => by
  have q264 := fun κ => h264 T r ln [60] κ s
  have st := (List.tail_suffix r).trans s
  have := sz_tail r
  unfold bB at q264
  rw [eq320]
  unfold bB
  rw [cm0_x, q264, rK, a320]
  unfold mailboxP skipP
  induction standsP [60] r using Bool.casesOn with
  | false =>
    skip
    exact fin320 h299 h278 h306 T r ln ws [] false κ s h1 h2
  | true =>
    rw [br_t, if_pos rfl, h130 ws _ h1]
    induction e : phraseP 0 false (ws.filter notC) using Option.casesOn with
    | none => rfl
    | some nm =>
      have hl := phraseP_len e
      have hf := sz_filter notC ws
      have q210 := fun κ => h210 nm.flatten κ (by exact chk [_,_,_,_] (.h 1 (.m 2 (.v 2)) (.v 1) (.h 1 (.v 0) (.m 2 (.v 3)) (.h 2 (.v 3) (.v 2) .z))) 1 (.v 0) (.v 1) rfl h1 hl hf)
      dsimp only
      unfold bB at q210 ⊢
      rw [rK, cf210, q210, rK, cf313, h313 T r.tail ln _ st (by exact chk [_,_,_] (.h 1 (.m 2 (.v 2)) (.v 1) (.h 1 (.v 0) (.v 2) .z)) 1 (.v 0) (.v 1) rfl h2 this)]
      induction e2 : routeP r.tail using Option.casesOn with
      | none => rfl
      | some r1 =>
        have s1 := (routeP_suf e2)
        have z1 := sz_suf s1
        have z2 := sz_take r1
        have z3 := sz_suf (rest_suf r1)
        have l1 := len_sz r1
        dsimp only
        rw [rK, cm0_w, h285 T r1 ln _ (s1.trans st) (by exact chk [_,_,_,_,_] (.h 1 (.m 2 (.v 2)) (.v 1) (.h 1 (.v 3) (.v 2) (.h 1 (.v 4) (.v 3) (.h 1 (.v 0) (.v 4) .z)))) 1 (.v 0) (.v 1) rfl h2 this z1 l1)]
        exact fin320 h299 h278 h306 T (restP r1) ln (wordsP r1) nm.flatten true κ ((rest_suf r1).trans (s1.trans st)) (by exact chk [_,_,_,_,_] (.h 1 (.m 2 (.v 2)) (.v 1) (.h 2 (.v 3) (.v 2) (.h 2 (.v 4) (.v 3) (.h 2 (.v 0) (.v 4) .z)))) 1 (.m 2 (.v 0)) (.v 1) rfl h2 this z1 z2) (by exact chk [_,_,_,_,_] (.h 1 (.m 2 (.v 2)) (.v 1) (.h 2 (.v 3) (.v 2) (.h 2 (.v 4) (.v 3) (.h 2 (.v 0) (.v 4) .z)))) 1 (.m 2 (.v 0)) (.v 1) rfl h2 this z1 z3)
end Mine
end
section
set_option maxRecDepth 100000
namespace Mine
open PySem
variable {lf : Nat} {pf : PF} {mf : MF}

/- 334 read_list, over a reader of one place -/
noncomputable def listL {β : Type} (P : List Tok → Option (β × List Tok)) : Nat → List Tok → Option (List β × List Tok)
  | 0, _ => none
  | n + 1, r => if r.isEmpty || standsP [59] r then some ([], r) else if standsP [44] r then listL P n r.tail else match P r with
    | none => none
    | some (x, r') => if r'.isEmpty || (standsP [44] r' || standsP [59] r') then (listL P n r').map fun q => (x :: q.1, q.2) else none
noncomputable def listP {β : Type} (P : List Tok → Option (β × List Tok)) (r : List Tok) : Option (List β × List Tok) := listL P (r.length + 1) r
noncomputable def Short {β : Type} (P : List Tok → Option (β × List Tok)) : Prop := ∀ r x r', P r = some (x, r') → r' <:+ r ∧ r'.length < r.length
noncomputable def isObj : PV → Bool
  | .obj _ _ _ => true
  | _ => false
noncomputable def M327 {β : Type} (b : Bool) (P : List Tok → Option (β × List Tok)) (en : β → PV) (mf : MF) : Prop := ∀ (T r : List Tok) (ln : Int) (κ : PV → Cell → List Cell → Out), r <:+ T → 2 * sz r ≤ szB → mf 327 (rd T r ln) [.bool b] κ =
  match P r with
  | none => .exc
  | some (x, r') => κ (en x) (rd T r' ln) []
noncomputable def M334 {β : Type} (b : Bool) (P : List Tok → Option (β × List Tok)) (en : β → PV) (mf : MF) : Prop := ∀ (T r : List Tok) (ln : Int) (κ : PV → Cell → List Cell → Out), r <:+ T → 2 * sz r ≤ szB → mf 334 (rd T r ln) [.bool b] κ =
  match listP P r with
  | none => .exc
  | some (xs, r') => κ (.lst (xs.map en)) (rd T r' ln) []
noncomputable abbrev m334 (b : Bool) : Loc := [some (.cell 0), some (.bool b), some (.cell 1), none]
theorem eq334 (T : List PV) (a ln : Int) (b : Bool) (κ : PV → Cell → List Cell → Out) : (SXO lf pf mf).mf 334 (rC T a ln) [.bool b] κ = whileL lf (tW (QX lf pf mf) (stAt 33) 1) (bW (QX lf pf mf) (kM κ) (stAt 33) 1 0) (m334 b) [rC T a ln, .list []] (pM (QX lf pf mf) (stAt 33) 2 κ) := by kernel_rfl
theorem t334 (T : List PV) (a ln : Int) (b : Bool) (l : List PV) (k : KB) : tW (QX lf pf mf) (stAt 33) 1 (m334 b) [rC T a ln, .list l] k = cmR (QX lf pf mf) [rC T a ln, .list l] "is_done" [] (kB fun c σ => br (!c) (cmR (QX lf pf mf) σ "stands" [bB [59]] (kB fun c σ => br (!c) (k true σ) (k false σ))) (k false σ)) := by kernel_rfl
theorem b334 (T : List PV) (a ln : Int) (b : Bool) (l : List PV) (κ : PV → Cell → List Cell → Out) (k : KS) : bW (QX lf pf mf) (kM κ) (stAt 33) 1 0 (m334 b) [rC T a ln, .list l] k = cmR (QX lf pf mf) [rC T a ln, .list l] "skip" [bB [44]] (kB fun c σ => br c (k (m334 b) σ) (bW (QX lf pf mf) (kM κ) (stAt 33) 1 1 (m334 b) σ k)) := by kernel_rfl
theorem c334 (T : List PV) (a ln : Int) (b : Bool) (l : List PV) (κ : PV → Cell → List Cell → Out) (k : KS) : bW (QX lf pf mf) (kM κ) (stAt 33) 1 1 (m334 b) [rC T a ln, .list l] k = mf 327 (rC T a ln) [.bool b] fun v c fr => retK [c, .list l] v fr fun v σ => callM (QX lf pf mf) σ (.cell 1) (sOf "append") [v] fun ζ σ => bW (QX lf pf mf) (kM κ) (stAt 33) 1 2 (m334 b) σ k := by kernel_rfl
theorem d334 (T : List PV) (a ln : Int) (b : Bool) (l : List PV) (κ : PV → Cell → List Cell → Out) (k : KS) : bW (QX lf pf mf) (kM κ) (stAt 33) 1 2 (m334 b) [rC T a ln, .list l] k =
  cmR (QX lf pf mf) [rC T a ln, .list l] "is_done" [] (kB fun c σ => br (!c) (cmR (QX lf pf mf) σ "stands" [bB [44]] (kB fun c σ => br (!c) (cmR (QX lf pf mf) σ "stands" [bB [59]] (kB fun c σ => br (!c) (cmR (QX lf pf mf) σ "fault" [.str (sOf "a comma is missing")] fun v σ => br (isExc σ v) .exc .stuck) (k (m334 b) σ))) (k (m334 b) σ))) (k (m334 b) σ)) := by kernel_rfl
theorem p334 (T : List PV) (a ln : Int) (b : Bool) (l : List PV) (κ : PV → Cell → List Cell → Out) : pM (QX lf pf mf) (stAt 33) 2 κ (m334 b) [rC T a ln, .list l] = κ (.lst l) (rC T a ln) [] := by kernel_rfl
theorem app_o (T : List PV) (a ln : Int) (l : List PV) (v : PV) (hv : isObj v = true) (k : KV) : callM (QX lf pf mf) [rC T a ln, .list l] (.cell 1) (sOf "append") [v] k = br (decide (l.length < LIM)) (k .none [rC T a ln, .list (l ++ [v])]) .stuck := by
  induction v using PV.casesOn with
  | obj c ns vs => kernel_rfl
  | _ => exact nft hv
theorem lp334 {β : Type} {b : Bool} {P : List Tok → Option (β × List Tok)} {en : β → PV} (hP : Short P) (hen : ∀ x, isObj (en x) = true) (h236 : M236 mf) (h250 : M250 mf) (h264 : M264 mf) (h271 : M271 mf) (h327 : M327 b P en mf) (T : List Tok) (ln : Int) (κ : PV → Cell → List Cell → Out) :
    ∀ (n m : Nat) (r : List Tok) (acc : List β), r <:+ T → r.length < n → r.length < m → 2 * sz r ≤ szB → acc.length + r.length ≤ szB →
    whileL n (tW (QX lf pf mf) (stAt 33) 1) (bW (QX lf pf mf) (kM κ) (stAt 33) 1 0) (m334 b) [rd T r ln, .list (acc.map en)] (pM (QX lf pf mf) (stAt 33) 2 κ) =
    match listL P m r with
    | none => .exc
    | some (xs, r') => κ (.lst ((acc ++ xs).map en)) (rd T r' ln) []
  | 0, m, r, acc, s, hn, _, _, _ => absurd hn (Nat.not_lt_zero _)
  | n + 1, 0, r, acc, s, _, hm, _, _ => absurd hm (Nat.not_lt_zero _)
  | n + 1, m + 1, r, acc, s, hn, hm, hz, ha => by
    have q59 := fun κ => h250 T r ln [59] κ s
    have q44 := fun κ => h264 T r ln [44] κ s
    have st := (List.tail_suffix r).trans s
    have := sz_tail r
    have fin : pM (QX lf pf mf) (stAt 33) 2 κ (m334 b) [rd T r ln, .list (acc.map en)] = κ (.lst ((acc ++ []).map en)) (rd T r ln) [] := by rw [p334, List.append_nil]
    unfold bB at q59 q44
    rw [whileL, t334, cm_d, h236 T r ln _ s, rK, kB_b]
    unfold listL
    induction he : r.isEmpty using Bool.casesOn with
    | true => skip; exact fin
    | false =>
      rw [Bool.not_false, br_t]
      unfold bB
      rw [cm_s, q59, rK, kB_b, Bool.false_or]
      induction h59 : standsP [59] r using Bool.casesOn with
      | true => skip; exact fin
      | false =>
        rw [Bool.not_false, br_t, br_t, if_neg Bool.false_ne_true, b334]
        unfold bB
        rw [cm_x, q44, rK, kB_b]
        unfold skipP
        induction h44 : standsP [44] r using Bool.casesOn with
        | true =>
          have := stands_tail h44
          skip
          exact lp334 hP hen h236 h250 h264 h271 h327 T ln κ n m r.tail acc st (by exact Nat.lt_of_lt_of_le this (Nat.le_of_lt_succ hn)) (by exact Nat.lt_of_lt_of_le this (Nat.le_of_lt_succ hm)) (by exact chk [_,_,_] (.h 1 (.m 2 (.v 2)) (.v 1) (.h 2 (.v 0) (.v 2) .z)) 1 (.m 2 (.v 0)) (.v 1) rfl hz (by assumption)) (by exact chk [_,_,_,_] (.h 1 (.a (.v 0) (.v 3)) (.v 2) (.h 1 (.a (.v 1) (.n 1)) (.v 3) .z)) 1 (.a (.v 0) (.v 1)) (.v 2) rfl ha this)
        | false =>
          rw [br_f, if_neg Bool.false_ne_true, if_neg Bool.false_ne_true, c334, h327 T r ln _ s hz]
          induction e : P r using Option.casesOn with
          | none => rfl
          | some x =>
            refine nn fun nG => ?_
            obtain ⟨sx, lx⟩ := hP r x.1 x.2 e
            refine nG ?_
            have sT := sx.trans s
            have zx := sz_suf sx
            have q44 := fun κ => h250 T x.2 ln [44] κ sT
            have q59 := fun κ => h250 T x.2 ln [59] κ sT
            unfold bB at q44 q59
            dsimp only
            rw [rK, app_o _ _ _ _ _ (hen x.1), lt_lim (by exact chk [_,_,_] (.h 1 (.a (.v 0) (.v 2)) (.v 1) .z) 1 (.v 0) (.v 1) rfl ha), br_t, d334, cm_d, h236 T x.2 ln _ sT, rK, kB_b]
            have go : whileL n (tW (QX lf pf mf) (stAt 33) 1) (bW (QX lf pf mf) (kM κ) (stAt 33) 1 0) (m334 b) [rd T x.2 ln, .list (acc.map en ++ [en x.1])] (pM (QX lf pf mf) (stAt 33) 2 κ) =
                match (listL P m x.2).map fun q => (x.1 :: q.1, q.2) with
                | none => .exc
                | some (xs, r') => κ (.lst ((acc ++ xs).map en)) (rd T r' ln) [] := by
              have := lp334 hP hen h236 h250 h264 h271 h327 T ln κ n m x.2 (acc ++ [x.1]) sT (by exact Nat.lt_of_lt_of_le lx (Nat.le_of_lt_succ hn)) (by exact Nat.lt_of_lt_of_le lx (Nat.le_of_lt_succ hm)) (by exact chk [_,_,_] (.h 1 (.m 2 (.v 2)) (.v 1) (.h 2 (.v 0) (.v 2) .z)) 1 (.m 2 (.v 0)) (.v 1) rfl hz zx) (by simp; exact chk [_,_,_,_] (.h 1 (.a (.v 0) (.v 3)) (.v 2) (.h 1 (.a (.v 1) (.n 1)) (.v 3) .z)) 1 (.a (.a (.v 0) (.n 1)) (.v 1)) (.v 2) rfl ha lx)
              rw [List.map_append] at this
              refine Eq.trans this ?_
              induction listL P m x.2 using Option.casesOn with
              | none => rfl
              | some q => simp
            induction x.2.isEmpty using Bool.casesOn with
            | true => skip; exact go
            | false =>
              rw [Bool.not_false, br_t, Bool.false_or]
              unfold bB
              rw [cm_s, q44, rK, kB_b]
              induction standsP [44] x.2 using Bool.casesOn with
              | true => skip; exact go
              | false =>
                rw [Bool.false_or, cm_s, q59, rK, kB_b]
                induction standsP [59] x.2 using Bool.casesOn with
                | true => skip; exact go
                | false => rw [cm_f, h271 T x.2 ln _ _ sT]; rfl
theorem m334_ok {β : Type} {b : Bool} {P : List Tok → Option (β × List Tok)} {en : β → PV} (hlf : szB < lf) (hP : Short P) (hen : ∀ x, isObj (en x) = true) (h236 : M236 mf) (h250 : M250 mf) (h264 : M264 mf) (h271 : M271 mf) (h327 : M327 b P en mf) : M334 b P en (SXO lf pf mf).mf := fun T r ln κ s hz => by
  have := len_sz r
  skip
  exact lp334 (lf := lf) (pf := pf) hP hen h236 h250 h264 h271 h327 T ln κ lf (r.length + 1) r [] s (by exact chk [_,_,_,_] (.h 1 (.a (.v 2) (.n 1)) (.v 1) (.h 1 (.m 2 (.v 3)) (.v 2) (.h 1 (.v 0) (.v 3) .z))) 1 (.a (.v 0) (.n 1)) (.v 1) rfl hlf hz this) (by exact Nat.lt_succ_self _) hz (by simp; exact chk [_,_,_] (.h 1 (.m 2 (.v 2)) (.v 1) (.h 1 (.v 0) (.v 2) .z)) 1 (.v 0) (.v 1) rfl hz this)

/- 327 read_place -/
inductive Item where
  | mb (m : Mb)
  | grp (nm : List UInt8) (ms : List Mb)
noncomputable abbrev gob (nm : PV) (ms : List PV) : PV := .obj 201 [sOf "name", sOf "members"] [nm, .lst ms]
noncomputable def encI : Item → PV
  | .mb m => encM m
  | .grp nm ms => gob (.str (tx nm)) (ms.map encM)
noncomputable def placeIn (r : List Tok) : Option (Mb × List Tok) := if standsP [58] (restP r) then none else mailboxP (wordsP r) (restP r)
noncomputable def groupP (r : List Tok) : Option (Item × List Tok) := if (wordsP r).isEmpty then none else match phraseP 0 false ((wordsP r).filter notC) with
  | none => none
  | some nm => match listP placeIn (restP r).tail with
    | none => none
    | some (ms, r1) => if standsP [59] r1 then some (.grp nm.flatten ms, r1.tail) else none
noncomputable def placeOut (r : List Tok) : Option (Item × List Tok) := if standsP [58] (restP r) then groupP r else (mailboxP (wordsP r) (restP r)).map fun q => (.mb q.1, q.2)
theorem short_in : Short placeIn := fun r x r' h => by
  unfold placeIn at h
  split at h
  · exact nns h
  · obtain ⟨a, b⟩ := mailboxP_suf h
    have := (rest_suf r).length_le
    exact ⟨a.trans (rest_suf r), by exact Nat.lt_of_lt_of_le b this⟩
set_option tactic.hygienic true in
theorem listL_suf {β : Type} {P : List Tok → Option (β × List Tok)} (hP : Short P) : ∀ {n : Nat} {r : List Tok} {xs : List β} {r' : List Tok}, listL P n r = some (xs, r') → r' <:+ r
  | 0, r, xs, r', h => by exact nns h
  | n + 1, r, xs, r', h => by
    unfold listL at h
    split at h
    · cases h; exact List.suffix_refl _
    · split at h
      · exact (listL_suf hP h).trans (List.tail_suffix r)
      · split at h
        · exact nns h
        · rename_i x r1 e
          split at h
          · induction e2 : listL P n r1 using Option.casesOn with
            | none => rw [e2] at h; exact nns h
            | some q =>
              rw [e2] at h; cases h
              exact (listL_suf hP e2).trans (hP _ _ _ e).1
          · exact nns h
theorem short_out : Short placeOut := fun r x r' h => by
  have hr := (rest_suf r).length_le
  unfold placeOut at h
  split at h
  · rename_i hs
    have ht := stands_tail hs
    unfold groupP at h
    split at h
    · exact nns h
    · split at h
      · exact nns h
      · split at h
        · exact nns h
        · rename_i ms r1 e
          split at h
          · cases h
            have s1 := (listL_suf short_in e).trans (List.tail_suffix (restP r))
            have := (List.tail_suffix r1).length_le
            have := s1.length_le
            have := (listL_suf short_in e).length_le
            exact ⟨((List.tail_suffix r1).trans s1).trans (rest_suf r), by exact Nat.lt_of_lt_of_le (Nat.lt_of_le_of_lt (Nat.le_trans (by assumption) this) ht) hr⟩
          · exact nns h
  · induction e : mailboxP (wordsP r) (restP r) using Option.casesOn with
    | none => rw [e] at h; exact nns h
    | some q =>
      rw [e] at h; cases h
      obtain ⟨a, b⟩ := mailboxP_suf e
      exact ⟨a.trans (rest_suf r), by exact Nat.lt_of_lt_of_le b hr⟩
noncomputable abbrev m327 (b : Bool) (ws nm fd : Option PV) : Loc := [some (.cell 0), some (.bool b), ws, nm, fd, none, none, none, none, none]
theorem eq327 (T : List PV) (a ln : Int) (b : Bool) (κ : PV → Cell → List Cell → Out) : (SXO lf pf mf).mf 327 (rC T a ln) [.bool b] κ = cmR (QX lf pf mf) [rC T a ln] "words" [] fun w σ => pM (QX lf pf mf) (stAt 32) 1 κ (m327 b (some w) none none) σ := by kernel_rfl
theorem a327 (T ws : List PV) (a ln : Int) (b : Bool) (κ : PV → Cell → List Cell → Out) : pM (QX lf pf mf) (stAt 32) 1 κ (m327 b (some (.lst ws)) none none) [rC T a ln] = cmR (QX lf pf mf) [rC T a ln] "stands" [bB [58]] (kB fun c σ => br (!c) (cf (QX lf pf mf) σ 320 [.cell 0, .lst ws] (kM κ)) (pM (QX lf pf mf) (stAt 32) 2 κ (m327 b (some (.lst ws)) none none) σ)) := by kernel_rfl
noncomputable abbrev flt327 (Q : Orc) (σ : List Cell) : Out := cmR Q σ "fault" [.str (sOf "a group cannot stand here")] fun v σ => br (isExc σ v) .exc .stuck
theorem b327 (T ws : List PV) (a ln : Int) (b : Bool) (κ : PV → Cell → List Cell → Out) : pM (QX lf pf mf) (stAt 32) 2 κ (m327 b (some (.lst ws)) none none) [rC T a ln] = br b (flt327 (QX lf pf mf) [rC T a ln]) (opt (cmp [rC T a ln, .list []] .Eq (.lst ws) (.cell 1)) fun c => br c (flt327 (QX lf pf mf) [rC T a ln, .list []]) (pM (QX lf pf mf) (stAt 32) 3 κ (m327 b (some (.lst ws)) none none) [rC T a ln, .list []])) := by kernel_rfl
theorem c327 (T ws : List PV) (a ln : Int) (b : Bool) (κ : PV → Cell → List Cell → Out) : pM (QX lf pf mf) (stAt 32) 3 κ (m327 b (some (.lst ws)) none none) [rC T a ln, .list []] = pf 130 [.lst ws] fun v fr => retK [rC T a ln, .list []] v fr fun v σ => cf (QX lf pf mf) σ 210 [v] fun v σ => pM (QX lf pf mf) (stAt 32) 4 κ (m327 b (some (.lst ws)) (some v) none) σ := by kernel_rfl
theorem d327 (T ws : List PV) (a ln : Int) (b : Bool) (nm : PV) (κ : PV → Cell → List Cell → Out) : pM (QX lf pf mf) (stAt 32) 4 κ (m327 b (some (.lst ws)) (some nm) none) [rC T a ln, .list []] = cmR (QX lf pf mf) [rC T a ln, .list []] "need" [bB [58]] fun ζ σ => pM (QX lf pf mf) (stAt 32) 5 κ (m327 b (some (.lst ws)) (some nm) none) σ := by kernel_rfl
theorem e327 (T ws : List PV) (a ln : Int) (b : Bool) (nm : PV) (κ : PV → Cell → List Cell → Out) : pM (QX lf pf mf) (stAt 32) 5 κ (m327 b (some (.lst ws)) (some nm) none) [rC T a ln, .list []] = mf 334 (rC T a ln) [.bool true] fun v c fr => retK [c, .list []] v fr fun v σ => pM (QX lf pf mf) (stAt 32) 6 κ (m327 b (some (.lst ws)) (some nm) (some v)) σ := by kernel_rfl
theorem f327 (T ws : List PV) (a ln : Int) (b : Bool) (nm fd : PV) (κ : PV → Cell → List Cell → Out) : pM (QX lf pf mf) (stAt 32) 6 κ (m327 b (some (.lst ws)) (some nm) (some fd)) [rC T a ln, .list []] = cmR (QX lf pf mf) [rC T a ln, .list []] "need" [bB [59]] fun ζ σ => pM (QX lf pf mf) (stAt 32) 7 κ (m327 b (some (.lst ws)) (some nm) (some fd)) σ := by kernel_rfl
theorem g327 (T ws : List PV) (a ln : Int) (b : Bool) (nm : Str) (fd : List PV) (κ : PV → Cell → List Cell → Out) : pM (QX lf pf mf) (stAt 32) 7 κ (m327 b (some (.lst ws)) (some (.str nm)) (some (.lst fd))) [rC T a ln, .list []] = κ (gob (.str nm) fd) (rC T a ln) [] := by kernel_rfl
theorem cf320 (T ws : List PV) (a ln : Int) (k : KV) : cf (QX lf pf mf) [rC T a ln] 320 [.cell 0, .lst ws] k = mf 320 (rC T a ln) [.lst ws] fun v c fr => retK [c] v fr k := by kernel_rfl
theorem cf210' (C : Cell) (hC : noExc [C] = true) (w : Array UInt8) (k : KV) : cf (QX lf pf mf) [C, .list []] 210 [.bytes w] k = pf 210 [.bytes w] fun v fr => retK [C, .list []] v fr k := by
  induction C using Cell.casesOn with
  | exc => exact nft hC
  | list _ => kernel_rfl
  | inst _ _ _ => kernel_rfl
theorem cm_n (T : List PV) (a ln : Int) (l : List PV) (s : Array UInt8) (k : KV) : cmR (QX lf pf mf) [rC T a ln, .list l] "need" [.bytes s] k = mf 278 (rC T a ln) [.bytes s] fun v c fr => retK [c, .list l] v fr k := by kernel_rfl
theorem eq_nil1 (C : Cell) (ys : List PV) : cmp [C, .list []] .Eq (.lst ys) (.cell 1) = some ys.isEmpty := by
  induction ys using List.casesOn with
  | nil => rfl
  | cons y ys =>
    show (match decide (ys.length + 1 = 0) with
      | true => tAll (tEq 8) (y :: ys) []
      | false => some false) = _
    rw [decide_eq_false (by omega)]; rfl
theorem enc_obj (m : Mb) : isObj (encM m) = true := rfl
theorem encI_obj (x : Item) : isObj (encI x) = true := by cases x <;> rfl
theorem m327_in (h130 : S130 pf) (h210 : S210 pf) (h250 : M250 mf) (h271 : M271 mf) (h285 : M285 mf) (h320 : M320 mf) : M327 true placeIn encM (SXO lf pf mf).mf := fun T r ln κ s hz => by
  have hl := len_sz r
  have sr := (rest_suf r).trans s
  have z1 := sz_take r
  have z2 := sz_suf (rest_suf r)
  have q58 := fun κ => h250 T (restP r) ln [58] κ sr
  unfold bB at q58
  rw [eq327, cm0_w, h285 T r ln _ s (by exact chk [_,_,_] (.h 1 (.m 2 (.v 2)) (.v 1) (.h 1 (.v 0) (.v 2) .z)) 1 (.v 0) (.v 1) rfl hz hl), rK, a327]
  unfold bB
  rw [cm0_s, q58, rK, kB_b]
  unfold placeIn
  induction standsP [58] (restP r) using Bool.casesOn with
  | false =>
    rw [cf320, h320 T (restP r) ln (wordsP r) _ sr (by exact chk [_,_,_] (.h 1 (.m 2 (.v 2)) (.v 1) (.h 2 (.v 0) (.v 2) .z)) 1 (.m 2 (.v 0)) (.v 1) rfl hz z1) (by exact chk [_,_,_] (.h 1 (.m 2 (.v 2)) (.v 1) (.h 2 (.v 0) (.v 2) .z)) 1 (.m 2 (.v 0)) (.v 1) rfl hz z2)]
    induction mailboxP (wordsP r) (restP r) using Option.casesOn with
    | none => rfl
    | some q => rfl
  | true =>
    rw [b327, br_t, flt327, cm0_f, h271 T (restP r) ln _ _ sr]; rfl
theorem m327_out (h130 : S130 pf) (h210 : S210 pf) (h250 : M250 mf) (h271 : M271 mf) (h278 : M278 mf) (h285 : M285 mf) (h320 : M320 mf) (h334 : M334 true placeIn encM mf) : M327 false placeOut encI (SXO lf pf mf).mf := fun T r ln κ s hz => by
  have hl := len_sz r
  have sr := (rest_suf r).trans s
  have z1 := sz_take r
  have z2 := sz_suf (rest_suf r)
  have q58 := fun κ => h250 T (restP r) ln [58] κ sr
  have q58n := fun κ => h278 T (restP r) ln [58] κ sr (by decide)
  unfold bB at q58 q58n
  rw [eq327, cm0_w, h285 T r ln _ s (by exact chk [_,_,_] (.h 1 (.m 2 (.v 2)) (.v 1) (.h 1 (.v 0) (.v 2) .z)) 1 (.v 0) (.v 1) rfl hz hl), rK, a327]
  unfold bB
  rw [cm0_s, q58, rK, kB_b]
  unfold placeOut
  induction h58 : standsP [58] (restP r) using Bool.casesOn with
  | false =>
    rw [cf320, h320 T (restP r) ln (wordsP r) _ sr (by exact chk [_,_,_] (.h 1 (.m 2 (.v 2)) (.v 1) (.h 2 (.v 0) (.v 2) .z)) 1 (.m 2 (.v 0)) (.v 1) rfl hz z1) (by exact chk [_,_,_] (.h 1 (.m 2 (.v 2)) (.v 1) (.h 2 (.v 0) (.v 2) .z)) 1 (.m 2 (.v 0)) (.v 1) rfl hz z2)]
    induction mailboxP (wordsP r) (restP r) using Option.casesOn with
    | none => rfl
    | some q => rfl
  | true =>
    rw [Bool.not_true, br_f, if_pos rfl, b327, br_f, eq_nil1, opt_s]
    unfold groupP
    have e0 : ((wordsP r).map enc).isEmpty = (wordsP r).isEmpty := by cases wordsP r <;> rfl
    rw [e0]
    induction (wordsP r).isEmpty using Bool.casesOn with
    | true => rw [flt327, cm_f, h271 T (restP r) ln _ _ sr]; rfl
    | false =>
      rw [br_f, c327, h130 (wordsP r) _ (by exact chk [_,_,_] (.h 1 (.m 2 (.v 2)) (.v 1) (.h 2 (.v 0) (.v 2) .z)) 1 (.m 2 (.v 0)) (.v 1) rfl hz z1)]
      induction e : phraseP 0 false ((wordsP r).filter notC) using Option.casesOn with
      | none => rfl
      | some nm =>
        have hp := phraseP_len e
        have hf := sz_filter notC (wordsP r)
        have q210 := fun κ => h210 nm.flatten κ (by exact chk [_,_,_,_,_] (.h 1 (.m 2 (.v 2)) (.v 1) (.h 2 (.v 3) (.v 2) (.h 1 (.v 0) (.m 2 (.v 4)) (.h 2 (.v 4) (.v 3) .z)))) 1 (.v 0) (.v 1) rfl hz z1 hp hf)
        have z3 := sz_tail (restP r)
        have stl := (List.tail_suffix (restP r)).trans sr
        unfold bB at q210
        dsimp only
        unfold bB
        rw [rK, cf210' _ (by rfl), q210, rK, d327]
        unfold bB
        rw [cm_n, q58n, h58, rK, e327, h334 T (restP r).tail ln _ stl (by exact chk [_,_,_,_] (.h 1 (.m 2 (.v 2)) (.v 1) (.h 2 (.v 3) (.v 2) (.h 2 (.v 0) (.v 3) .z))) 1 (.m 2 (.v 0)) (.v 1) rfl hz z2 z3)]
        induction e2 : listP placeIn (restP r).tail using Option.casesOn with
        | none => rfl
        | some x =>
          have sx := (listL_suf short_in e2).trans stl
          have q59 := fun κ => h278 T x.2 ln [59] κ sx (by decide)
          unfold bB at q59
          dsimp only
          rw [rK, f327]
          unfold bB
          rw [cm_n, q59]
          induction standsP [59] x.2 using Bool.casesOn with
          | false => rfl
          | true => skip; rfl

/- 341 read_addresses -/
noncomputable def readP (l : List UInt8) : Option (List Item) := match toksP l (l.length + 1) l with
  | none => none
  | some ts => match listP placeOut (ts.filter notC) with
    | none => none
    | some (xs, r) => if r.isEmpty then some xs else none
noncomputable abbrev m341 (d : Array UInt8) (r f : Option PV) : Loc := [some (.bytes d), r, f, none, none, none, none, none]
theorem eq341 (d : Array UInt8) (k : KV) : (SXO lf pf mf).pf 341 [.bytes d] k = pf 118 [.bytes d] fun v fr => retK [] v fr fun v σ => cf (QX lf pf mf) σ 123 [v] fun v σ => cf (QX lf pf mf) σ 288 [v, .int d.size] fun v σ => pW (QX lf pf mf) (stAt 34) 1 k (m341 d (some v) none) σ := by kernel_rfl
theorem cf123 (l : List PV) (k : KV) : cf (QX lf pf mf) [] 123 [.lst l] k = pf 123 [.lst l] fun v fr => retK [] v fr k := by kernel_rfl
theorem cf288 (l : List PV) (n : Int) (k : KV) : cf (QX lf pf mf) [] 288 [.lst l, .int n] k = k (.cell 0) [rC l 0 n] := by kernel_rfl
theorem a341 (d : Array UInt8) (T : List PV) (a ln : Int) (k : KV) : pW (QX lf pf mf) (stAt 34) 1 k (m341 d (some (.cell 0)) none) [rC T a ln] = mf 334 (rC T a ln) [.bool false] fun v c fr => retK [c] v fr fun v σ => pW (QX lf pf mf) (stAt 34) 2 k (m341 d (some (.cell 0)) (some v)) σ := by kernel_rfl
theorem b341 (d : Array UInt8) (T fs : List PV) (a ln : Int) (k : KV) : pW (QX lf pf mf) (stAt 34) 2 k (m341 d (some (.cell 0)) (some (.lst fs))) [rC T a ln] = cmR (QX lf pf mf) [rC T a ln] "is_done" [] (kB fun c σ => br (!c) (cmR (QX lf pf mf) σ "fault" [.str (sOf "a semicolon outside of groups")] fun v σ => br (isExc σ v) .exc .stuck) (k (.lst fs) [])) := by kernel_rfl
noncomputable def S341 (pf : PF) : Prop := ∀ (l : List UInt8) (κ : KV), okL l → 4 * l.length ≤ szB → pf 341 [bB l] κ =
  match readP l with
  | none => .exc
  | some xs => κ (.lst (xs.map encI)) []
theorem s341 (h118 : S118 pf) (h123 : S123 pf) (h236 : M236 mf) (h271 : M271 mf) (h334 : M334 false placeOut encI mf) : S341 (SXO lf pf mf).pf := fun l κ ok hl => by
  have q118 := fun κ => h118 l κ ok (by exact chk [_,_] (.h 1 (.m 4 (.v 0)) (.v 1) .z) 1 (.v 0) (.v 1) rfl hl)
  unfold bB at q118 ⊢
  rw [eq341, q118]
  unfold readP
  induction e : toksP l (l.length + 1) l using Option.casesOn with
  | none => rfl
  | some ts =>
    have z1 := toksP_sz e
    have z2 := sz_filter notC ts
    dsimp only
    rw [rK, cf123, h123, rK, cf288, a341]
    have := fun κ => h334 (ts.filter notC) (ts.filter notC) (l.toArray.size : Int) κ (List.suffix_refl _) (by exact chk [_,_,_,_] (.h 1 (.m 4 (.v 2)) (.v 1) (.h 2 (.v 3) (.m 2 (.v 2)) (.h 2 (.v 0) (.v 3) .z))) 1 (.m 2 (.v 0)) (.v 1) rfl hl z1 z2)
    rw [show rd (ts.filter notC) (ts.filter notC) (l.toArray.size : Int) = rC ((ts.filter notC).map enc) 0 (l.toArray.size : Int) by unfold rd; rw [po_self]] at this
    rw [this]
    induction e2 : listP placeOut (ts.filter notC) using Option.casesOn with
    | none => rfl
    | some x =>
      have sx := listL_suf short_out e2
      dsimp only
      rw [rK, b341, cm0_d, h236 _ x.2 _ _ sx, rK, kB_b]
      induction x.2.isEmpty using Bool.casesOn with
      | true => rfl
      | false => rw [cm0_f, h271 _ x.2 _ _ _ sx]; rfl
end Mine
end
section
set_option maxRecDepth 100000
namespace Mine
open PySem
variable {lf : Nat} {pf : PF} {mf : MF}

/- 408 _law_is_bare -/
noncomputable def barN : List Nat := [40, 41, 60, 62, 91, 93, 58, 59, 64, 92, 44, 46, 34]
noncomputable def badN (c : Nat) : Bool := (barN.any fun d => Nat.beq d c) || (decide ((c : Int) < 33) || decide ((c : Int) = 127))
noncomputable def bareP (j : Nat) (t : List Nat) : Bool := (splitAt1 (fun y => y == j) t).all fun w => !w.isEmpty && w.all fun c => !badN c
noncomputable def ifT0 (st : Stmt) : PySem.Expr := match whBody st 0 with
  | .If (.BoolOp _ [_, .Compare l _ _ _] _) _ _ _ :: _ => l
  | _ => .Constant .none 0 ⟨0, 0, 0, 0⟩
theorem eq408 (s : Str) (j : Nat) (k : KV) : (SXO lf pf mf).pf 408 [.str s, .str (one j)] k = br (decide (s.length < LIM)) (forL ((splitAt1 (fun y => y == j) s.cps.toList).map fun w => .str ⟨w.toArray⟩) (bF (QX lf pf mf) (kR k) (stAt 47) 0) [some (.str s), some (.str (one j)), none] [] (pW (QX lf pf mf) (stAt 47) 1 k)) .stuck := by kernel_rfl
theorem b408 (a b : PV) (x : Option PV) (w : List Nat) (σ : List Cell) (κ : KV) (k : KS) : bF (QX lf pf mf) (kR κ) (stAt 47) 0 (.str ⟨w.toArray⟩) [some a, some b, x] σ k = br (decide (sS w = sOf "")) (κ (.bool false) [])
  (compL (w.map fun c => .str ⟨#[c]⟩) (cF (QX lf pf mf) 53 (ifT0 (stAt 47))) σ fun ys σ => opt (cmp (σ ++ [.list []]) .NotEq (.lst ys) (.cell σ.length)) fun c => br c (κ (.bool false) []) (k [some a, some b, some (.str ⟨w.toArray⟩)] (σ ++ [.list []]))) := by kernel_rfl
theorem c408 (c : Nat) (σ : List Cell) (k' : Option PV → List Cell → Out) : cF (QX lf pf mf) 53 (ifT0 (stAt 47)) (.str ⟨#[c]⟩) σ k' = br (barN.any fun d => Nat.beq d c) (k' (some (.str (one c))) σ) (br (decide ((c : Int) < 33)) (k' (some (.str (one c))) σ) (br (decide ((c : Int) = 127)) (k' (some (.str (one c))) σ) (k' none σ))) := by kernel_rfl
theorem p408 (m : Loc) (σ : List Cell) (k : KV) : pW (QX lf pf mf) (stAt 47) 1 k m σ = k (.bool true) [] := by kernel_rfl
theorem ne_nil (σ : List Cell) (ys : List PV) : cmp (σ ++ [.list []]) .NotEq (.lst ys) (.cell σ.length) = some (!ys.isEmpty) := by
  have hv : view (σ ++ [.list []]) (.cell σ.length) = .lst [] := by
    unfold view
    simp
  unfold cmp
  rw [hv]
  induction ys using List.casesOn with
  | nil => rfl
  | cons y ys =>
    show (match (match decide (ys.length + 1 = 0) with
      | true => tAll (tEq 8) (y :: ys) []
      | false => some false) with
      | some c => some (!c)
      | .none => .none) = _
    skip; rfl
theorem eq_nilσ (σ : List Cell) (ys : List PV) : cmp (σ ++ [.list []]) .Eq (.lst ys) (.cell σ.length) = some ys.isEmpty := by
  have hv : view (σ ++ [.list []]) (.cell σ.length) = .lst [] := by
    unfold view
    simp
  unfold cmp
  rw [hv]
  induction ys using List.casesOn with
  | nil => rfl
  | cons y ys =>
    show (match decide (ys.length + 1 = 0) with
      | true => tAll (tEq 8) (y :: ys) []
      | false => some false) = _
    rw [decide_eq_false (by omega)]; rfl
noncomputable def S408 (pf : PF) : Prop := ∀ (t : List Nat) (j : Nat) (κ : KV), t.length ≤ szB → pf 408 [.str (sS t), .str (one j)] κ = κ (.bool (bareP j t)) []
theorem fm_empty' {β : Type} (p : β → Bool) (en : β → PV) : ∀ l : List β, (l.filterMap fun x => if p x then some (en x) else none).isEmpty = l.all fun x => !p x
  | [] => rfl
  | x :: l => by
    rw [List.filterMap_cons, List.all_cons]
    have := fm_empty' p en l
    induction p x using Bool.casesOn with
    | false => simpa using this
    | true => rfl
theorem lp408 (a b : PV) (κ : KV) : ∀ (ws : List (List Nat)) (x : Option PV) (σ : List Cell),
    forL (ws.map fun w => .str ⟨w.toArray⟩) (bF (QX lf pf mf) (kR κ) (stAt 47) 0) [some a, some b, x] σ (pW (QX lf pf mf) (stAt 47) 1 κ) = κ (.bool (ws.all fun w => !w.isEmpty && w.all fun c => !badN c)) []
  | [], x, σ => by
    show pW _ _ _ _ _ _ = _
    skip; rfl
  | w :: ws, x, σ => by
    rw [List.map_cons, forL, b408, sS_nil, compL_fm (g := fun c : Nat => if badN c then some (.str (one c)) else none) w fun c ζ k' => ?_]
    · rw [ne_nil, opt_s, fm_empty', List.all_cons]
      induction w using List.casesOn with
      | nil => rfl
      | cons c w =>
        rw [List.isEmpty_cons, Bool.not_false]
        induction (c :: w).all fun c => !badN c using Bool.casesOn with
        | false => rfl
        | true =>
          skip
          exact lp408 a b κ ws _ _
    · rw [c408]
      unfold badN
      cases (barN.any fun d => Nat.beq d c) <;> cases decide ((c : Int) < 33) <;> cases decide ((c : Int) = 127) <;> rfl
theorem s408 : S408 (SXO lf pf mf).pf := fun t j κ h => by
  have := lim_big
  have : 1 ≤ szB := by decide
  rw [eq408, decide_eq_true (by show t.toArray.size < LIM; simp; exact chk [_,_,_] (.h 1 (.v 0) (.v 2) (.h 1 (.r (.v 2) 100) (.v 1) (.h 1 (.n 1) (.v 2) .z))) 1 (.a (.v 0) (.n 1)) (.v 1) rfl h (by assumption) this)]
  exact lp408 _ _ κ _ none []

/- 415 _law_octets -/
noncomputable abbrev m415 (s j : PV) (b : Option PV) (x : Option PV) : Loc := [some s, some j, some (.cell 0), b, x, none, none, none]
theorem eq415 (s j : Str) (k : KV) : (SXO lf pf mf).pf 415 [.str s, .str j] k = pf 408 [.str s, .str j] (pA (QX lf pf mf) (stAt 48) 1 k (m415 (.str s) (.str j) none none) [.list []]) := by kernel_rfl
theorem a415 (s j : Str) (b : Bool) (k : KV) : pA (QX lf pf mf) (stAt 48) 1 k (m415 (.str s) (.str j) none none) [.list []] (.bool b) [] = forL (s.cps.toList.map fun c => .str ⟨#[c]⟩) (bF (QX lf pf mf) (kR k) (stAt 48) 2) (m415 (.str s) (.str j) (some (.bool b)) none) [.list []] (pW (QX lf pf mf) (stAt 48) 3 k) := by kernel_rfl
theorem b415 (s j : PV) (b : Bool) (x : Option PV) (c : Nat) (l : List PV) (κ : KV) (k : KS) : bF (QX lf pf mf) (kR κ) (stAt 48) 2 (.str ⟨#[c]⟩) (m415 s j (some (.bool b)) x) [.list l] k =
  (let r := fun l : List PV => br (decide (l.length < LIM)) (k (m415 s j (some (.bool b)) (some (.str ⟨#[c]⟩))) [.list (l ++ [.int (c : Int)])]) .stuck
   br (!b) (br ([34, 92].any fun d => Nat.beq d c) (br (decide (l.length < LIM)) (r (l ++ [.int 92])) .stuck) (r l)) (r l)) := by kernel_rfl
noncomputable abbrev byts (l : List PV) (k : PV → Out) : Out := opt (intsOf l) fun l => br (l.all fun i => decide (0 ≤ i) && decide (i < 256)) (k (.bytes (l.map fun i => i.toNat.toUInt8).toArray)) .stuck
theorem p415 (s j : PV) (b : Bool) (x : Option PV) (l : List PV) (k : KV) : pW (QX lf pf mf) (stAt 48) 3 k (m415 s j (some (.bool b)) x) [.list l] = br b (byts l fun v => frz v [.list l] k) (byts l fun v => binop .Add (bB [34]) v fun v => binop .Add v (bB [34]) fun v => frz v [.list l] k) := by kernel_rfl
noncomputable def escN (b : Bool) (t : List Nat) : List Nat := t.flatMap fun c => if !b && [34, 92].any (fun d => Nat.beq d c) then [92, c] else [c]
theorem escN_cons (b : Bool) (c : Nat) (t : List Nat) : escN b (c :: t) = (if !b && [34, 92].any (fun d => Nat.beq d c) then [92, c] else [c]) ++ escN b t := by simp [escN]
theorem escN_true : ∀ t, escN true t = t
  | [] => rfl
  | c :: t => by rw [escN_cons, escN_true t]; rfl
theorem u8_ne {c : Nat} (h : c ≤ 255) (d : Nat) (hd : d ≤ 255) : (UInt8.ofNat d == UInt8.ofNat c) = Nat.beq d c := by
  induction q : Nat.beq d c using Bool.casesOn with
  | true => rw [Nat.eq_of_beq_eq_true q]; simp
  | false =>
    have : d ≠ c := fun e => by rw [e, Nat.beq_refl] at q; exact ntf q
    refine beq_eq_false_iff_ne.mpr fun e => this ?_
    have := congrArg UInt8.toNat e
    simp [UInt8.toNat_ofNat] at this
    omega
theorem oct_cons {c : Nat} {t : List Nat} (h : oct (c :: t) = true) : c ≤ 255 ∧ oct t = true := by
  simp only [oct, List.all_cons, Bool.and_eq_true, decide_eq_true_eq] at h
  exact h
theorem escN_false : ∀ {t : List Nat}, oct t = true → oc (escN false t) = escP [34, 92] (oc t)
  | [], _ => rfl
  | c :: t, h => by
    obtain ⟨h1, h2⟩ := oct_cons h
    have e : oc (c :: t) = UInt8.ofNat c :: oc t := rfl
    have hc : ([34, 92] : List UInt8).contains (UInt8.ofNat c) = [34, 92].any (fun d => Nat.beq d c) := by
      show ((UInt8.ofNat c == UInt8.ofNat 34) || ((UInt8.ofNat c == UInt8.ofNat 92) || false)) = (Nat.beq 34 c || (Nat.beq 92 c || false))
      rw [← u8_ne h1 34 (by decide), ← u8_ne h1 92 (by decide)]
      congr 1
      · exact Bool.beq_comm
      · congr 1; exact Bool.beq_comm
    rw [e, escP_cons, escN_cons, ← escN_false h2, hc]
    unfold oc
    skip
    congr 1
    cases ([34, 92].any fun d => Nat.beq d c) <;> rfl
theorem escN_oct (b : Bool) : ∀ {t : List Nat}, oct t = true → oct (escN b t) = true
  | [], _ => rfl
  | c :: t, h => by
    obtain ⟨h1, h2⟩ := oct_cons h
    have := escN_oct b h2
    rw [escN_cons]
    unfold oct at this ⊢
    rw [List.all_append, this, Bool.and_true]
    split <;> simp [h1]
theorem escN_len (b : Bool) : ∀ t : List Nat, (escN b t).length ≤ 2 * t.length
  | [] => Nat.le_refl _
  | c :: t => by
    have := escN_len b t
    rw [escN_cons]
    split <;> simp <;> (first | exact chk [_,_] (.h 1 (.v 0) (.m 2 (.v 1)) .z) 1 (.a (.a (.v 0) (.n 1)) (.n 1)) (.m 2 (.a (.v 1) (.n 1))) rfl this | exact chk [_,_] (.h 1 (.v 0) (.m 2 (.v 1)) .z) 1 (.a (.v 0) (.n 1)) (.m 2 (.a (.v 1) (.n 1))) rfl this)
theorem lp415 (s j : PV) (b : Bool) (k : KV) : ∀ (t : List Nat) (acc : List Nat) (x : Option PV), acc.length + 2 * t.length ≤ szB →
    forL (t.map fun c => .str ⟨#[c]⟩) (bF (QX lf pf mf) (kR k) (stAt 48) 2) (m415 s j (some (.bool b)) x) [.list (acc.map fun c : Nat => .int (c : Int))] (pW (QX lf pf mf) (stAt 48) 3 k) =
    pW (QX lf pf mf) (stAt 48) 3 k (m415 s j (some (.bool b)) none) [.list ((acc ++ escN b t).map fun c : Nat => .int (c : Int))]
  | [], acc, x, h => by
    show pW _ _ _ _ _ _ = pW _ _ _ _ _ [.list ((acc ++ []).map _)]
    rw [List.append_nil, p415, p415]
  | c :: t, acc, x, h => by
    simp only [List.length_cons] at h
    have hl := lim_big
    have h1 : decide ((acc.map fun c : Nat => PV.int (c : Int)).length < LIM) = true := lt_lim (by exact chk [_,_,_] (.h 1 (.a (.v 0) (.m 2 (.a (.v 2) (.n 1)))) (.v 1) .z) 1 (.v 0) (.v 1) rfl h)
    have h2 : ∀ v : PV, decide (((acc.map fun c : Nat => PV.int (c : Int)) ++ [v]).length < LIM) = true := fun v => by
      unfold szB at *
      refine decide_eq_true ?_
      simp only [List.length_append, List.length_map, List.length_singleton]; exact chk [_,_,_] (.h 1 (.a (.v 0) (.m 2 (.a (.v 2) (.n 1)))) (.n 10000) (.h 1 (.m 10000 (.n 100)) (.v 1) .z)) 1 (.a (.a (.v 0) (.n 1)) (.n 1)) (.v 1) rfl h hl
    rw [List.map_cons, forL, b415]
    dsimp only
    rw [h1, h2, escN_cons]
    have one' := lp415 s j b k t (acc ++ [c]) (some (.str ⟨#[c]⟩)) (by simp; exact chk [_,_,_] (.h 1 (.a (.v 0) (.m 2 (.a (.v 1) (.n 1)))) (.v 2) .z) 1 (.a (.a (.v 0) (.n 1)) (.m 2 (.v 1))) (.v 2) rfl h)
    have two := lp415 s j b k t (acc ++ [92, c]) (some (.str ⟨#[c]⟩)) (by simp; exact chk [_,_,_] (.h 1 (.a (.v 0) (.m 2 (.a (.v 1) (.n 1)))) (.v 2) .z) 1 (.a (.a (.v 0) (.n 2)) (.m 2 (.v 1))) (.v 2) rfl h)
    rw [List.map_append] at one' two
    induction b using Bool.casesOn with
    | true =>
      rw [Bool.not_true, Bool.false_and, if_neg Bool.false_ne_true]
      refine Eq.trans one' ?_
      rw [List.append_assoc]
    | false =>
      rw [Bool.not_false, Bool.true_and]
      induction ([34, 92].any fun d => Nat.beq d c) using Bool.casesOn with
      | true =>
        rw [if_pos rfl, List.append_assoc]
        refine Eq.trans two ?_
        rw [List.append_assoc]
      | false =>
        rw [if_neg Bool.false_ne_true]
        refine Eq.trans one' ?_
        rw [List.append_assoc]
theorem byts_ok {t : List Nat} (h : oct t = true) (k : PV → Out) : byts (t.map fun c : Nat => .int (c : Int)) k = k (bB (oc t)) := by
  have : (t.map fun c : Nat => PV.int (c : Int)) = (t.map fun c : Nat => (c : Int)).map .int := by simp
  unfold byts
  rw [this, intsOf_map, opt_s, bytes_all h, bytes_map]; rfl
noncomputable def lawO (j : Nat) (t : List Nat) : List UInt8 := if bareP j t then oc t else quoP (oc t)
noncomputable def S415 (pf : PF) : Prop := ∀ (t : List Nat) (j : Nat) (κ : KV), oct t = true → 2 * t.length ≤ szB → pf 415 [.str (sS t), .str (one j)] κ = κ (bB (lawO j t)) []
theorem s415 (h408 : S408 pf) : S415 (SXO lf pf mf).pf := fun t j κ ho h => by
  have hl := lim_big
  have h0 : 1 ≤ szB := by decide
  rw [eq415, h408 t j _ (by exact chk [_,_] (.h 1 (.m 2 (.v 0)) (.v 1) .z) 1 (.v 0) (.v 1) rfl h)]
  have lp := lp415 (lf := lf) (pf := pf) (mf := mf) (.str (sS t)) (.str (one j)) (bareP j t) κ t [] none (by simp; exact h)
  refine Eq.trans lp ?_
  rw [List.nil_append, p415, byts_ok (escN_oct _ ho), byts_ok (escN_oct _ ho)]
  unfold lawO
  induction hb : bareP j t using Bool.casesOn with
  | true => rw [escN_true]; rfl
  | false =>
    have := escP_len [34, 92] (oc t)
    have := oc_len t
    rw [escN_false ho, add_b _ _ (by simp; exact chk [_,_,_,_,_] (.h 1 (.m 2 (.v 2)) (.v 3) (.h 1 (.r (.v 3) 100) (.v 1) (.h 1 (.n 1) (.v 3) (.h 1 (.v 0) (.m 2 (.v 4)) (.h 2 (.v 4) (.v 2) .z))))) 1 (.a (.n 1) (.v 0)) (.v 1) rfl h hl h0 (by assumption) (Nat.le_of_eq this)), add_b _ _ (by simp; exact chk [_,_,_,_,_] (.h 1 (.m 2 (.v 2)) (.v 3) (.h 1 (.r (.v 3) 100) (.v 1) (.h 2 (.n 1) (.v 3) (.h 1 (.v 0) (.m 2 (.v 4)) (.h 2 (.v 4) (.v 2) .z))))) 1 (.a (.a (.v 0) (.n 1)) (.n 1)) (.v 1) rfl h hl h0 (by assumption) (Nat.le_of_eq this))]
    rfl
end Mine
end
section
set_option maxRecDepth 100000
namespace Mine
open PySem
variable {lf : Nat} {pf : PF} {mf : MF}

/- told -/
noncomputable def toldM (m : Mb) : PV := .tup [.str (sOf "mailbox"), .str (tx m.nm), .str (tx m.lo), .str (tx m.dm)]
noncomputable def toldI : Item → PV
  | .mb m => toldM m
  | .grp nm ms => .tup [.str (sOf "group"), .str (tx nm), .tup (ms.map toldM)]
theorem eq172 (a b c : Str) (κ : KV) : (SXO lf pf mf).pf 172 [mbx (.str a) (.str b) (.str c)] κ = κ (.tup [.str (sOf "mailbox"), .str a, .str b, .str c]) [] := by kernel_rfl
noncomputable def S172 (pf : PF) : Prop := ∀ (m : Mb) (κ : KV), pf 172 [encM m] κ = κ (toldM m) []
theorem s172 : S172 (SXO lf pf mf).pf := fun m κ => eq172 _ _ _ κ
noncomputable def e198 : PySem.Expr := match fBody (inCls 24 1) with
  | [.Return (some (.Tuple [_, _, .Call _ [c] _ _] _ _)) _] => c
  | _ => .Constant .none 0 ⟨0, 0, 0, 0⟩
theorem eq198 (nm : Str) (ms : List PV) (κ : KV) : (SXO lf pf mf).pf 198 [gob (.str nm) ms] κ = compL ms (cF (QX lf pf mf) 53 e198) [] fun ys σ => κ (.tup [.str (sOf "group"), .str nm, .tup ys]) [] := by kernel_rfl
theorem c198 (a b c : Str) (k' : Option PV → List Cell → Out) : cF (QX lf pf mf) 53 e198 (mbx (.str a) (.str b) (.str c)) [] k' = pf 172 [mbx (.str a) (.str b) (.str c)] fun v fr => retK [] v fr fun v σ => noCell v (k' (some v) σ) := by kernel_rfl
noncomputable def S198 (pf : PF) : Prop := ∀ (nm : List UInt8) (ms : List Mb) (κ : KV), pf 198 [encI (.grp nm ms)] κ = κ (toldI (.grp nm ms)) []
theorem s198 (h172 : S172 pf) : S198 (SXO lf pf mf).pf := fun nm ms κ => by
  show (SXO lf pf mf).pf 198 [gob (.str (tx nm)) (ms.map encM)] κ = _
  rw [eq198, compL_fm (g := fun m => some (toldM m)) ms fun m ζ k' => ?_]
  · have : ms.filterMap (fun m => some (toldM m)) = ms.map toldM := by simp
    rw [this]; rfl
  · have h := h172 m
    unfold encM at h ⊢
    rw [c198, h]; rfl

/- 420 _law_heard -/
noncomputable def e420 : PySem.Expr := match tBody (stAt 49) with
  | [.Return (some c) _] => c
  | _ => .Constant .none 0 ⟨0, 0, 0, 0⟩
theorem eq420 (d : Array UInt8) (k : KV) : (SXO lf pf mf).pf 420 [.bytes d] k = tryO (pf 341 [.bytes d] fun v fr => retK [] v fr fun v σ => opt (items v) fun xs => compL xs (cF (QX lf pf mf) 58 e420) σ fun ys σ => .ok (.lst ys) []) (fun v => k v []) (k .none []) := by kernel_rfl
theorem c420m (a b c : PV) (k' : Option PV → List Cell → Out) : cF (QX lf pf mf) 58 e420 (mbx a b c) [] k' = pf 172 [mbx a b c] fun v fr => retK [] v fr fun v σ => noCell v (k' (some v) σ) := by kernel_rfl
theorem c420g (a : PV) (ms : List PV) (k' : Option PV → List Cell → Out) : cF (QX lf pf mf) 58 e420 (gob a ms) [] k' = pf 198 [gob a ms] fun v fr => retK [] v fr fun v σ => noCell v (k' (some v) σ) := by kernel_rfl
noncomputable def S420 (pf : PF) : Prop := ∀ (l : List UInt8) (κ : KV), okL l → 4 * l.length ≤ szB → pf 420 [bB l] κ =
  match readP l with
  | none => κ .none []
  | some xs => κ (.lst (xs.map toldI)) []
theorem s420 (h172 : S172 pf) (h198 : S198 pf) (h341 : S341 pf) : S420 (SXO lf pf mf).pf := fun l κ ok h => by
  have q := fun κ => h341 l κ ok h
  unfold bB at q ⊢
  rw [eq420, q]
  induction readP l using Option.casesOn with
  | none => rfl
  | some xs =>
    dsimp only
    rw [rK, show items (.lst (xs.map encI)) = some (xs.map encI) from rfl, opt_s, compL_fm (g := fun x => some (toldI x)) xs fun x ζ k' => ?_]
    · have : xs.filterMap (fun m => some (toldI m)) = xs.map toldI := by simp
      rw [this]; rfl
    · cases x with
      | mb m =>
        have h := h172 m
        show cF (QX lf pf mf) 58 e420 (mbx _ _ _) [] k' = _
        unfold encM at h
        rw [c420m, h]; rfl
      | grp nm ms =>
        have h := h198 nm ms
        show cF (QX lf pf mf) 58 e420 (gob _ _) [] k' = _
        unfold encI at h
        rw [c420g, h]; rfl

/- 377 write_addresses -/
noncomputable abbrev m377 (a : PV) (b c : Option PV) : Loc := [some a, some (.cell 0), b, c, none, none, none, none]
noncomputable def tb377 : List Stmt := match whBody (stAt 40) 1 with
  | [.If _ b _ _] => b
  | _ => []
noncomputable def e377 : PySem.Expr := match tb377 with
  | .Assign _ (.Call _ [c] _ _) _ :: _ => c
  | _ => .Constant .none 0 ⟨0, 0, 0, 0⟩
noncomputable def tA377 (Q : Orc) (kr : KV) (m : Loc) (σ : List Cell) (k : KS) : Out := execS Q (fNames (stAt 40)) 56 (tb377.drop 1) m σ (fun m σ => execS Q (fNames (stAt 40)) 57 [] m σ k k kr) k kr
theorem eq377 (l : List PV) (k : KV) : (SXO lf pf mf).pf 377 [.lst l] k = forL l (bF (QX lf pf mf) (kR k) (stAt 40) 1) (m377 (.lst l) none none) [.list []] (pW (QX lf pf mf) (stAt 40) 2 k) := by kernel_rfl
theorem b377m (a : PV) (b c : Option PV) (x y z : PV) (l : List PV) (κ : KV) (k : KS) : bF (QX lf pf mf) (kR κ) (stAt 40) 1 (mbx x y z) (m377 a b c) [.list l] k = pf 372 [mbx x y z] fun v fr => retK [.list l] v fr fun v σ => callM (QX lf pf mf) σ (.cell 0) (sOf "append") [v] fun ζ σ => k (m377 a (some (mbx x y z)) c) σ := by kernel_rfl
theorem b377g (a : PV) (b c : Option PV) (nm : Str) (ms l : List PV) (κ : KV) (k : KS) : bF (QX lf pf mf) (kR κ) (stAt 40) 1 (gob (.str nm) ms) (m377 a b c) [.list l] k = compL ms (cF (QX lf pf mf) 53 e377) [.list l] fun ys σ => opt (bytesOf ys) fun bs => br (jFit 2 (bs.map (·.size))) (tA377 (QX lf pf mf) (kR κ) (m377 a (some (gob (.str nm) ms)) (some (.bytes (bJoin [44, 32] bs).toArray))) σ k) .stuck := by kernel_rfl
theorem c377 (x y z : PV) (l : List PV) (k' : Option PV → List Cell → Out) : cF (QX lf pf mf) 53 e377 (mbx x y z) [.list l] k' = pf 372 [mbx x y z] fun v fr => retK [.list l] v fr fun v σ => noCell v (k' (some v) σ) := by kernel_rfl
theorem g377 (a : PV) (nm : Str) (ms l : List PV) (rw_ : Array UInt8) (κ : KV) (k : KS) : tA377 (QX lf pf mf) (kR κ) (m377 a (some (gob (.str nm) ms)) (some (.bytes rw_))) [.list l] k = pf 351 [.str nm] fun v fr => retK [.list l] v fr fun x σ => binop .Add x (bB [58]) fun x =>
  (let K : KV := fun y σ => binop .Add x y fun x => binop .Add x (bB [59]) fun v => callM (QX lf pf mf) σ (.cell 0) (sOf "append") [v] fun ζ σ => k (m377 a (some (gob (.str nm) ms)) (some (.bytes rw_))) σ
   br (!decide (rw_ = #[])) (binop .Add (bB [32]) (.bytes rw_) fun v => K v σ) (K (bB []) σ)) := by kernel_rfl
theorem p377 (a : PV) (b c : Option PV) (l : List PV) (k : KV) : pW (QX lf pf mf) (stAt 40) 2 k (m377 a b c) [.list l] = opt (bytesOf l) fun bs => br (jFit 2 (bs.map (·.size))) (k (.bytes (bJoin [44, 32] bs).toArray) []) .stuck := by kernel_rfl
theorem app0 (l : List PV) (d : Array UInt8) (k : KV) : callM (QX lf pf mf) [.list l] (.cell 0) (sOf "append") [.bytes d] k = br (decide (l.length < LIM)) (k .none [.list (l ++ [.bytes d])]) .stuck := by kernel_rfl
/- a mailbox's and a group's row, told or refused -/
noncomputable def Tells (pf : PF) (x : PV) (w : List UInt8) : Prop := ∀ κ, pf 372 [x] κ = κ (bB w) []
noncomputable def Refuses (pf : PF) (x : PV) : Prop := ∀ κ, pf 372 [x] κ = .exc
noncomputable abbrev mbs (a b c : Str) : PV := mbx (.str a) (.str b) (.str c)
theorem bf_tells {a b c : Str} {w : List UInt8} (h : Tells pf (mbs a b c) w) (v : PV) (x y : Option PV) (acc : List (List UInt8)) (ha : acc.length ≤ szB) (κ : KV) (k : KS) :
    bF (QX lf pf mf) (kR κ) (stAt 40) 1 (mbs a b c) (m377 v x y) [.list (acc.map bB)] k = k (m377 v (some (mbs a b c)) y) [.list ((acc ++ [w]).map bB)] := by
  rw [b377m, h, rK]
  unfold bB
  skip
  show br (decide ((acc.map bB).length < LIM)) _ _ = _
  rw [lt_lim ha, List.map_append]; rfl
theorem bf_refuses {a b c : Str} (h : Refuses pf (mbs a b c)) (v : PV) (x y : Option PV) (l : List PV) (κ : KV) (k : KS) :
    bF (QX lf pf mf) (kR κ) (stAt 40) 1 (mbs a b c) (m377 v x y) [.list l] k = .exc := by
  rw [b377m, h]
noncomputable def grpO (y w : List UInt8) : List UInt8 := y ++ [58] ++ (32 :: w) ++ [59]
theorem bf_group {n a b c : Str} {w y : List UInt8} (h : Tells pf (mbs a b c) w) (hy : ∀ κ, pf 351 [.str n] κ = κ (bB y) []) (hw : w ≠ []) (hs : w.length + y.length + 10 ≤ szB) (v : PV) (x z : Option PV) (acc : List (List UInt8)) (ha : acc.length ≤ szB) (κ : KV) (k : KS) :
    bF (QX lf pf mf) (kR κ) (stAt 40) 1 (gob (.str n) [mbs a b c]) (m377 v x z) [.list (acc.map bB)] k = k (m377 v (some (gob (.str n) [mbs a b c])) (some (bB w))) [.list ((acc ++ [grpO y w]).map bB)] := by
  have hl := lim_big
  rw [b377g, compL, c377, h]
  show br (jFit 2 [w.toArray.size]) (tA377 (QX lf pf mf) (kR κ) (m377 v (some (gob (.str n) [mbs a b c])) (some (.bytes w.toArray.toList.toArray))) [.list (acc.map bB)] k) .stuck = _
  rw [jFit_ok, br_t, g377, hy, rK]
  · show binop .Add (bB y) (bB [58]) _ = _
    rw [add_b _ _ (by simp; exact chk [_,_,_,_] (.h 1 (.a (.a (.v 2) (.v 0)) (.n 10)) (.v 3) (.h 1 (.r (.v 3) 100) (.v 1) .z)) 1 (.a (.v 0) (.n 1)) (.v 1) rfl hs hl)]
    rw [show decide (w.toArray = #[]) = false from (toA_inj w []).trans (decide_eq_false hw), Bool.not_false, br_t]
    show binop .Add (bB [32]) (bB w) _ = _
    rw [add_b _ _ (by simp; exact chk [_,_,_,_] (.h 1 (.a (.a (.v 0) (.v 2)) (.n 10)) (.v 3) (.h 1 (.r (.v 3) 100) (.v 1) .z)) 1 (.a (.n 1) (.v 0)) (.v 1) rfl hs hl)]
    show binop .Add (bB (y ++ [58])) (bB ([32] ++ w)) _ = _
    rw [add_b _ _ (by simp; exact chk [_,_,_,_] (.h 1 (.a (.a (.v 1) (.v 0)) (.n 10)) (.v 3) (.h 1 (.r (.v 3) 100) (.v 2) .z)) 1 (.a (.a (.v 0) (.n 1)) (.a (.v 1) (.n 1))) (.v 2) rfl hs hl), add_b _ _ (by simp; exact chk [_,_,_,_] (.h 1 (.a (.a (.v 1) (.v 0)) (.n 10)) (.v 3) (.h 1 (.r (.v 3) 100) (.v 2) .z)) 1 (.a (.a (.v 0) (.a (.a (.v 1) (.n 1)) (.n 1))) (.n 1)) (.v 2) rfl hs hl)]
    show callM (QX lf pf mf) [.list (acc.map bB)] (.cell 0) (sOf "append") [.bytes (y ++ [58] ++ ([32] ++ w) ++ [59]).toArray] _ = _
    rw [app0, lt_lim ha, List.map_append]; rfl
  · simp; exact chk [_,_,_,_] (.h 1 (.a (.a (.v 0) (.v 2)) (.n 10)) (.v 3) (.h 1 (.r (.v 3) 100) (.v 1) .z)) 1 (.a (.v 0) (.n 2)) (.v 1) rfl hs hl
theorem bf_group_no {n a b c : Str} {w : List UInt8} (h : Tells pf (mbs a b c) w) (hy : ∀ κ, pf 351 [.str n] κ = .exc) (hs : w.length + 10 ≤ szB) (v : PV) (x z : Option PV) (l : List PV) (κ : KV) (k : KS) :
    bF (QX lf pf mf) (kR κ) (stAt 40) 1 (gob (.str n) [mbs a b c]) (m377 v x z) [.list l] k = .exc := by
  have hl := lim_big
  rw [b377g, compL, c377, h]
  show br (jFit 2 [w.toArray.size]) (tA377 (QX lf pf mf) (kR κ) (m377 v (some (gob (.str n) [mbs a b c])) (some (.bytes w.toArray.toList.toArray))) [.list l] k) .stuck = _
  rw [jFit_ok, br_t, g377, hy]
  · simp; exact chk [_,_,_] (.h 1 (.a (.v 0) (.n 10)) (.v 2) (.h 1 (.r (.v 2) 100) (.v 1) .z)) 1 (.a (.v 0) (.n 2)) (.v 1) rfl hs hl
noncomputable def Refused (pf : PF) (x : PV) : Prop := ∀ κ, pf 377 [.lst [x, x]] κ = .exc
theorem w377 {n a b c a' b' c' : Str} {w1 w y : List UInt8} (h1 : Tells pf (mbs a' b' c') w1) (h : Tells pf (mbs a b c) w) (hy : ∀ κ, pf 351 [.str n] κ = κ (bB y) []) (hw : w ≠ []) (hs : w1.length + w.length + y.length + 10 ≤ szB) (κ : KV) :
    (SXO lf pf mf).pf 377 [.lst [mbs a' b' c', gob (.str n) [mbs a b c]]] κ = κ (bB (w1 ++ [44, 32] ++ grpO y w)) [] := by
  have hl := lim_big
  have hb := bf_tells (lf := lf) (mf := mf) h1 (.lst [mbs a' b' c', gob (.str n) [mbs a b c]]) none none [] (by simp)
  rw [List.map_nil] at hb
  rw [eq377, forL, hb, forL, bf_group h hy hw (by exact chk [_,_,_,_] (.h 1 (.a (.a (.a (.v 3) (.v 0)) (.v 1)) (.n 10)) (.v 2) .z) 1 (.a (.a (.v 0) (.v 1)) (.n 10)) (.v 2) rfl hs) _ _ _ _ (by simp; decide)]
  show br (jFit 2 [w1.toArray.size, (grpO y w).toArray.size]) (κ (.bytes (w1 ++ [44, 32] ++ (grpO y w).toArray.toList).toArray) []) .stuck = _
  rw [jFit_ok]
  · rfl
  · simp [grpO]; exact chk [_,_,_,_,_] (.h 1 (.a (.a (.a (.v 0) (.v 2)) (.v 1)) (.n 10)) (.v 4) (.h 1 (.r (.v 4) 100) (.v 3) .z)) 1 (.a (.a (.v 0) (.a (.v 1) (.a (.a (.a (.v 2) (.n 1)) (.n 1)) (.n 1)))) (.n 4)) (.v 3) rfl hs hl
theorem w377_mb {a b c a' b' c' : Str} {w1 : List UInt8} (h1 : Tells pf (mbs a' b' c') w1) (h : Refuses pf (mbs a b c)) (κ : KV) : (SXO lf pf mf).pf 377 [.lst [mbs a' b' c', mbs a b c]] κ = .exc := by
  have hb := bf_tells (lf := lf) (mf := mf) h1 (.lst [mbs a' b' c', mbs a b c]) none none [] (by simp)
  rw [List.map_nil] at hb
  rw [eq377, forL, hb, forL, bf_refuses h]
theorem w377_gr {n a b c a' b' c' : Str} {w1 w : List UInt8} (h1 : Tells pf (mbs a' b' c') w1) (h : Tells pf (mbs a b c) w) (hy : ∀ κ, pf 351 [.str n] κ = .exc) (hs : w.length + 10 ≤ szB) (κ : KV) :
    (SXO lf pf mf).pf 377 [.lst [mbs a' b' c', gob (.str n) [mbs a b c]]] κ = .exc := by
  have hb := bf_tells (lf := lf) (mf := mf) h1 (.lst [mbs a' b' c', gob (.str n) [mbs a b c]]) none none [] (by simp)
  rw [List.map_nil] at hb
  rw [eq377, forL, hb, forL, bf_group_no h hy hs]

/- 427 _law_is_refused -/
noncomputable abbrev nqd : PV := mbs (sS [110]) (sS [113]) (sS [100])
theorem eq427 (x : PV) (hx : isObj x = true) (k : KV) : (SXO lf pf mf).pf 427 [x] k = tryO (pf 377 [.lst [nqd, x]] fun v fr => retK [] v fr fun ζ σ => .ok .none []) (fun ζ => k (.bool false) []) (k (.bool true) []) := by
  induction x using PV.casesOn with
  | obj c ns vs => kernel_rfl
  | _ => exact nft hx
noncomputable def S427 (pf pf' : PF) : Prop := ∀ (x : PV) (κ : KV), isObj x = true → (∀ κ, pf 377 [.lst [nqd, x]] κ = .exc) → pf' 427 [x] κ = κ (.bool true) []
theorem s427 : S427 pf (SXO lf pf mf).pf := fun x κ hx h => by
  rw [eq427 x hx, h]; rfl
end Mine
end
section
set_option maxRecDepth 100000
namespace Mine
open PySem
variable {lf : Nat} {pf : PF} {mf : MF}

/- 365 domain_octets at the domains of the law -/
theorem eq365 (s : Str) (k : KV) : (SXO lf pf mf).pf 365 [.str s] k = pf 215 [.str s] (pA (QX lf pf mf) (stAt 38) 0 k [some (.str s), none, none, none, none, none, none] []) := by kernel_rfl
theorem a365_0 (s : PV) (k : KV) : pA (QX lf pf mf) (stAt 38) 0 k [some s, none, none, none, none, none, none] [] (.bytes #[120, 46, 111, 114, 103]) [] = pf 346 [.bytes #[120, 46, 111, 114, 103]] (bK [] fun c σ => br (!c) (cf (QX lf pf mf) σ 52 [.str (sOf "no domain")] fun v σ => br (isExc σ v) .exc .stuck) (k (.bytes #[120, 46, 111, 114, 103]) [])) := by kernel_rfl
theorem a365_2 (s : PV) (k : KV) : pA (QX lf pf mf) (stAt 38) 0 k [some s, none, none, none, none, none, none] [] (.bytes #[100]) [] = pf 346 [.bytes #[100]] (bK [] fun c σ => br (!c) (cf (QX lf pf mf) σ 52 [.str (sOf "no domain")] fun v σ => br (isExc σ v) .exc .stuck) (k (.bytes #[100]) [])) := by kernel_rfl
theorem a365_1 (s : PV) (k : KV) : pA (QX lf pf mf) (stAt 38) 0 k [some s, none, none, none, none, none, none] [] (.bytes #[91, 49, 46, 50, 93]) [] = pf 137 [bB [49, 46, 50], bB [91, 93, 92]] fun v fr => retK [] v fr fun v σ => binop .Add (bB [91]) v fun v => binop .Add v (bB [93]) fun v => frz v σ k := by kernel_rfl
theorem s365 (h215 : S215 pf) (h346 : S346 pf) (h137 : S137 pf) : S365 (SXO lf pf mf).pf := fun i κ => by
  have hz : 10 ≤ szB := by decide
  have hl := lim_big
  have ho : oct (domS i) = true := by unfold domS; split <;> rfl
  have hn : (domS i).length ≤ 5 := by unfold domS; split <;> simp
  rw [eq365, h215 _ _ (by exact chk [_,_] (.h 1 (.n 10) (.v 1) (.h 1 (.v 0) (.n 5) .z)) 1 (.v 0) (.v 1) rfl hz hn), ho, if_pos rfl]
  match i with
  | 0 =>
    have := h346 [120, 46, 111, 114, 103]
    unfold bB at this
    show pA _ _ _ _ _ _ (.bytes #[120, 46, 111, 114, 103]) [] = _
    rw [a365_0, this _ (by simp; exact chk [_] (.h 1 (.n 10) (.v 0) .z) 1 (.n 5) (.v 0) rfl hz)]
    rfl
  | 1 =>
    show pA _ _ _ _ _ _ (.bytes #[91, 49, 46, 50, 93]) [] = _
    rw [a365_1, h137 _ _ _ (by simp; exact chk [_] (.h 1 (.n 10) (.v 0) .z) 1 (.n 6) (.v 0) rfl hz)]
    rfl
  | i + 2 =>
    have := h346 [100]
    unfold bB at this
    show pA _ _ _ _ _ _ (.bytes #[100]) [] = _
    rw [a365_2, this _ (by simp; exact chk [_] (.h 1 (.n 10) (.v 0) .z) 1 (.n 1) (.v 0) rfl hz)]
    rfl

/- 432 _law_right -/
noncomputable abbrev m432 (t d bn bp rw_ : PV) (tp tn pl nm pc ocs br_ : Option PV) : Loc := [some t, some d, some bn, some bp, some rw_, tp, tn, pl, nm, pc, ocs, br_, none, none, none, none, none, none, none, none, none]
noncomputable abbrev gone (n : Str) (x : PV) : PV := gob (.str n) [x]
noncomputable abbrev bn_ (t d : Str) : PV := mbs t (sS [112]) d
noncomputable abbrev bp_ (t d : Str) : PV := mbs (sS []) t d
noncomputable abbrev rw_ (t : Str) : PV := gone t (mbs (sS []) (sS [112]) (sS [100]))
noncomputable abbrev mm (t d : Str) (tp tn pl nm pc ocs br_ : Option PV) : Loc := m432 (.str t) (.str d) (bn_ t d) (bp_ t d) (rw_ t) tp tn pl nm pc ocs br_
theorem eq432 (t d : Str) (k : KV) : (SXO lf pf mf).pf 432 [.str t, .str d] k = pW (QX lf pf mf) (stAt 51) 1 k (mm t d none none none none none none none) [] := by kernel_rfl
noncomputable def rf432 (Q : Orc) (k : KV) (m : Loc) (σ : List Cell) : Out := execS Q (fNames (stAt 51)) 58 (ifBody (stAt 51) 1) m σ (pW Q (stAt 51) 2 k) (fun ζ ζ => .stuck) (kR k)
theorem a432 (t d : Str) (k : KV) : pW (QX lf pf mf) (stAt 51) 1 k (mm t d none none none none none none none) [] = compL (t.cps.toList.map fun c => .str ⟨#[c]⟩) (cF (QX lf pf mf) 56 (cmpL (ifTest (stAt 51) 1))) [] fun ys σ => opt (cmp (σ ++ [.list []]) .NotEq (.lst ys) (.cell σ.length)) fun c => br c (rf432 (QX lf pf mf) k (mm t d none none none none none none none) (σ ++ [.list []])) (pW (QX lf pf mf) (stAt 51) 2 k (mm t d none none none none none none none) (σ ++ [.list []])) := by kernel_rfl
theorem c432 (c : Nat) (k' : Option PV → List Cell → Out) : cF (QX lf pf mf) 56 (cmpL (ifTest (stAt 51) 1)) (.str ⟨#[c]⟩) [] k' = br (anyInt (c : Int) [0, 10, 13, 256]) (k' (some (.str ⟨#[c]⟩)) []) (k' none []) := by kernel_rfl
theorem r432 (t d : Str) (k : KV) : rf432 (QX lf pf mf) k (mm t d none none none none none none none) [.list []] = pf 427 [bn_ t d] fun v fr => retK [.list []] v fr (kB fun c σ => br c (cf (QX lf pf mf) σ 427 [bp_ t d] (kB fun c σ => br c (cf (QX lf pf mf) σ 427 [rw_ t] fun v σ => frz v σ k) (k (.bool false) []))) (k (.bool false) [])) := by kernel_rfl
noncomputable abbrev tpl (a b c : Str) : PV := .tup [.str (sOf "mailbox"), .str a, .str b, .str c]
noncomputable def bytE (i : Nat) : PySem.Expr := match (fBody (stAt 51))[i]? with
  | some (.Assign _ (.Call _ [c] _ _) _) => c
  | _ => .Constant .none 0 ⟨0, 0, 0, 0⟩
theorem d432 (t d : Str) (k : KV) : pW (QX lf pf mf) (stAt 51) 2 k (mm t d none none none none none none none) [.list []] = compL (d.cps.toList.map fun c => .str ⟨#[c]⟩) (cF (QX lf pf mf) 52 (bytE 4)) [.list []] fun ys σ => byts ys fun v => pW (QX lf pf mf) (stAt 51) 5 k (mm t d (some (tpl (sS []) t d)) (some (tpl t (sS [112]) d)) (some v) none none none none) σ := by kernel_rfl
theorem e432 (c : Nat) (σ : List Cell) (k' : Option PV → List Cell → Out) : cF (QX lf pf mf) 52 (bytE 4) (.str ⟨#[c]⟩) σ k' = k' (some (.int (c : Int))) σ := by kernel_rfl
theorem f432 (t d : Str) (pl : Array UInt8) (k : KV) : pW (QX lf pf mf) (stAt 51) 5 k (mm t d (some (tpl (sS []) t d)) (some (tpl t (sS [112]) d)) (some (.bytes pl)) none none none none) [.list []] =
  pf 415 [.str t, .str (one 32)] fun v fr => retK [.list []] v fr fun n σ => cf (QX lf pf mf) σ 415 [.str t, .str (one 46)] fun x σ => binop .Add x (bB [64]) fun x => binop .Add x (.bytes pl) fun y => br (noCells [n, y]) (pW (QX lf pf mf) (stAt 51) 6 k (mm t d (some (tpl (sS []) t d)) (some (tpl t (sS [112]) d)) (some (.bytes pl)) (some n) (some y) none none) σ) .stuck := by kernel_rfl
theorem g432 (t d : Str) (pl n y : Array UInt8) (k : KV) : pW (QX lf pf mf) (stAt 51) 6 k (mm t d (some (tpl (sS []) t d)) (some (tpl t (sS [112]) d)) (some (.bytes pl)) (some (.bytes n)) (some (.bytes y)) none none) [.list []] =
  pf 372 [bn_ t d] fun v fr => retK [.list []] v fr fun x σ => binop .Add (.bytes n) (bB [32, 60, 112, 64]) fun z => binop .Add z (.bytes pl) fun z => binop .Add z (bB [62]) fun z => opt (cmp σ .NotEq x z) fun c => br c (k (.bool false) []) (cf (QX lf pf mf) σ 372 [bp_ t d] fun x σ => opt (cmp σ .NotEq x (.bytes y)) fun c => br c (k (.bool false) []) (pW (QX lf pf mf) (stAt 51) 7 k (mm t d (some (tpl (sS []) t d)) (some (tpl t (sS [112]) d)) (some (.bytes pl)) (some (.bytes n)) (some (.bytes y)) none none) σ)) := by kernel_rfl
theorem h432 (t d : Str) (pl n y : Array UInt8) (k : KV) : pW (QX lf pf mf) (stAt 51) 7 k (mm t d (some (tpl (sS []) t d)) (some (tpl t (sS [112]) d)) (some (.bytes pl)) (some (.bytes n)) (some (.bytes y)) none none) [.list []] =
  pf 377 [.lst [bn_ t d, gone t (bp_ t d)]] fun v fr => retK [.list []] v fr fun v σ => pW (QX lf pf mf) (stAt 51) 8 k (mm t d (some (tpl (sS []) t d)) (some (tpl t (sS [112]) d)) (some (.bytes pl)) (some (.bytes n)) (some (.bytes y)) (some v) none) σ := by kernel_rfl
theorem i432 (t d : Str) (pl n y o : Array UInt8) (k : KV) : pW (QX lf pf mf) (stAt 51) 8 k (mm t d (some (tpl (sS []) t d)) (some (tpl t (sS [112]) d)) (some (.bytes pl)) (some (.bytes n)) (some (.bytes y)) (some (.bytes o)) none) [.list []] =
  binop .Add (.bytes n) (bB [32, 60, 112, 64]) fun z => binop .Add z (.bytes pl) fun z => binop .Add z (bB [62, 44, 32]) fun z => binop .Add z (.bytes n) fun z => binop .Add z (bB [58, 32]) fun z => binop .Add z (.bytes y) fun z => binop .Add z (bB [59]) fun z => opt (cmp [.list []] .NotEq (.bytes o) z) fun c => br c (k (.bool false) []) (pW (QX lf pf mf) (stAt 51) 9 k (mm t d (some (tpl (sS []) t d)) (some (tpl t (sS [112]) d)) (some (.bytes pl)) (some (.bytes n)) (some (.bytes y)) (some (.bytes o)) none) [.list []]) := by kernel_rfl
theorem j432 (t d : Str) (pl n y o : Array UInt8) (k : KV) : pW (QX lf pf mf) (stAt 51) 9 k (mm t d (some (tpl (sS []) t d)) (some (tpl t (sS [112]) d)) (some (.bytes pl)) (some (.bytes n)) (some (.bytes y)) (some (.bytes o)) none) [.list []] =
  pf 420 [.bytes o] fun v fr => retK [.list []] v fr fun x σ => opt (cmp σ .NotEq x (.lst [tpl t (sS [112]) d, .tup [.str (sOf "group"), .str t, .tup [tpl (sS []) t d]]])) fun c => br c (k (.bool false) []) (pW (QX lf pf mf) (stAt 51) 10 k (mm t d (some (tpl (sS []) t d)) (some (tpl t (sS [112]) d)) (some (.bytes pl)) (some (.bytes n)) (some (.bytes y)) (some (.bytes o)) none) σ) := by kernel_rfl
theorem k432 (t d : Str) (pl n y o : Array UInt8) (k : KV) : pW (QX lf pf mf) (stAt 51) 10 k (mm t d (some (tpl (sS []) t d)) (some (tpl t (sS [112]) d)) (some (.bytes pl)) (some (.bytes n)) (some (.bytes y)) (some (.bytes o)) none) [.list []] =
  compL (t.cps.toList.map fun c => .str ⟨#[c]⟩) (cF (QX lf pf mf) 46 (bytE 10)) [.list []] fun ys σ => byts ys fun v => pW (QX lf pf mf) (stAt 51) 11 k (mm t d (some (tpl (sS []) t d)) (some (tpl t (sS [112]) d)) (some (.bytes pl)) (some (.bytes n)) (some (.bytes y)) (some (.bytes o)) (some v)) σ := by kernel_rfl
theorem l432 (c : Nat) (σ : List Cell) (k' : Option PV → List Cell → Out) : cF (QX lf pf mf) 46 (bytE 10) (.str ⟨#[c]⟩) σ k' = k' (some (.int (c : Int))) σ := by kernel_rfl
theorem n432 (t d : Str) (pl n y o b : Array UInt8) (k : KV) : pW (QX lf pf mf) (stAt 51) 11 k (mm t d (some (tpl (sS []) t d)) (some (tpl t (sS [112]) d)) (some (.bytes pl)) (some (.bytes n)) (some (.bytes y)) (some (.bytes o)) (some (.bytes b))) [.list []] =
  binop .Add (.bytes b) (bB [64]) fun z => binop .Add z (.bytes pl) fun z => cf (QX lf pf mf) [.list []] 420 [z] fun x σ => opt (cmp σ .Eq x (.lst [tpl (sS []) t d])) fun c1 => cf (QX lf pf mf) σ 408 [.str t, .str (one 46)] fun x σ => opt (cmp σ .NotEq (.bool c1) x) fun c => br c (k (.bool false) []) (pW (QX lf pf mf) (stAt 51) 12 k (mm t d (some (tpl (sS []) t d)) (some (tpl t (sS [112]) d)) (some (.bytes pl)) (some (.bytes n)) (some (.bytes y)) (some (.bytes o)) (some (.bytes b))) σ) := by kernel_rfl
theorem o432 (t d : Str) (pl n y o b : Array UInt8) (k : KV) : pW (QX lf pf mf) (stAt 51) 12 k (mm t d (some (tpl (sS []) t d)) (some (tpl t (sS [112]) d)) (some (.bytes pl)) (some (.bytes n)) (some (.bytes y)) (some (.bytes o)) (some (.bytes b))) [.list []] =
  br (t.cps.toList.any fun c => Nat.beq c 46) (k (.bool true) []) (binop .Add (.bytes b) (bB [32, 60, 112, 64]) fun z => binop .Add z (.bytes pl) fun z => binop .Add z (bB [62]) fun z => cf (QX lf pf mf) [.list []] 420 [z] fun x σ => opt (cmp σ .Eq x (.lst [tpl t (sS [112]) d])) fun c1 => cf (QX lf pf mf) σ 408 [.str t, .str (one 32)] fun x σ => opt (cmp σ .Eq (.bool c1) x) fun c => k (.bool c) []) := by kernel_rfl
end Mine
end
section
set_option maxRecDepth 100000
namespace Mine
open PySem

/- the tokens of a suffix, whatever the fuel -/
theorem wh_len (r : List UInt8) : (wh r).length ≤ r.length := (wh_suf r).length_le
theorem toksP_fuel (L : List UInt8) : ∀ (n m : Nat) (r : List UInt8), r.length < n → r.length < m → toksP L n r = toksP L m r
  | 0, _, r, h, _ => absurd h (Nat.not_lt_zero _)
  | _ + 1, 0, r, _, h => absurd h (Nat.not_lt_zero _)
  | n + 1, m + 1, r, h1, h2 => by
    unfold toksP
    have hw := wh_len r
    induction e : wh r using List.casesOn with
    | nil => rfl
    | cons x r1 =>
      rw [e] at hw
      simp only [List.length_cons] at hw
      dsimp only
      induction q : tokP (po L (x :: r1)) x r1 using Option.casesOn with
      | none => rfl
      | some p =>
        have := (tokP_suf q).1.length_le
        dsimp only
        rw [toksP_fuel L n m p.2 (by exact Nat.lt_of_lt_of_le (Nat.lt_of_le_of_lt this hw) (Nat.le_of_lt_succ h1)) (by exact Nat.lt_of_lt_of_le (Nat.lt_of_le_of_lt this hw) (Nat.le_of_lt_succ h2))]
noncomputable def toks (L r : List UInt8) : Option (List Tok) := toksP L (r.length + 1) r
theorem toks_eq (L r : List UInt8) : toks L r = match wh r with
    | [] => some []
    | x :: r1 => match tokP (po L (x :: r1)) x r1 with
      | none => none
      | some (t, r') => (toks L r').map fun ts => t :: ts := by
  unfold toks
  conv => lhs; unfold toksP
  have hw := wh_len r
  induction e : wh r using List.casesOn with
  | nil => rfl
  | cons x r1 =>
    rw [e] at hw
    simp only [List.length_cons] at hw
    dsimp only
    induction q : tokP (po L (x :: r1)) x r1 using Option.casesOn with
    | none => rfl
    | some p =>
      have := (tokP_suf q).1.length_le
      dsimp only
      rw [toksP_fuel L r.length (p.2.length + 1) p.2 (by exact Nat.lt_of_le_of_lt this hw) (by exact Nat.lt_succ_self _)]
theorem toks_nil (L : List UInt8) : toks L [] = some [] := by rw [toks_eq]; rfl
theorem toks_sp (L r : List UInt8) : toks L (32 :: r) = toks L r := by
  rw [toks_eq, toks_eq L r]
  rw [show wh (32 :: r) = wh r from wh_cons 32 r]
/- what an atom's octet is not -/
theorem isA_no {c : UInt8} (h : isA c = true) : isW c = false ∧ c ≠ 34 ∧ c ≠ 91 ∧ c ≠ 40 ∧ signB.contains c = false := by
  have : ∀ n : Fin 256, isA (UInt8.ofNat n.val) = true → isW (UInt8.ofNat n.val) = false ∧ UInt8.ofNat n.val ≠ 34 ∧ UInt8.ofNat n.val ≠ 91 ∧ UInt8.ofNat n.val ≠ 40 ∧ signB.contains (UInt8.ofNat n.val) = false := by decide +kernel
  have := this ⟨c.toNat, c.toNat_lt⟩
  simp only [UInt8.ofNat_toNat] at this
  exact this h
noncomputable def stopA : List UInt8 → Bool
  | [] => true
  | c :: _ => !isA c
theorem take_stop {s : List UInt8} (h : stopA s = true) : ∀ {w : List UInt8}, w.all isA = true → (w ++ s).takeWhile isA = w ∧ (w ++ s).dropWhile isA = s
  | [], _ => by
    induction s using List.casesOn with
    | nil => exact ⟨rfl, rfl⟩
    | cons c s =>
      have : isA c = false := by simpa [stopA] using h
      simp [this]
  | x :: w, hw => by
    rw [List.all_cons, Bool.and_eq_true] at hw
    refine nn fun nG => ?_
    obtain ⟨a, b⟩ := take_stop h hw.2
    refine nG ?_
    rw [List.cons_append, List.takeWhile_cons, List.dropWhile_cons, if_pos hw.1, if_pos hw.1, a, b]
    exact ⟨rfl, rfl⟩
theorem toks_atom (L : List UInt8) {w s : List UInt8} (hw : isAt w = true) (hs : stopA s = true) : toks L (w ++ s) = (toks L s).map fun ts => ⟨.atom, w, po L (w ++ s)⟩ :: ts := by
  unfold isAt at hw
  rw [Bool.and_eq_true] at hw
  induction w using List.casesOn with
  | nil => exact nft hw.1
  | cons x w =>
    have hx := hw.2
    rw [List.all_cons, Bool.and_eq_true] at hx
    refine nn fun nG => ?_
    obtain ⟨n1, n2, n3, n4, n5⟩ := isA_no hx.1
    obtain ⟨a, b⟩ := take_stop hs hw.2
    refine nG ?_
    rw [toks_eq]
    have e : wh (x :: w ++ s) = x :: (w ++ s) := by rw [List.cons_append, wh_cons, n1]; rfl
    rw [e]
    dsimp only
    unfold tokP
    rw [if_neg n2, if_neg n3, if_neg n4, n5, if_neg Bool.false_ne_true, if_pos hx.1]
    rw [List.cons_append] at a b
    rw [a, b]; rfl
theorem toks_sign (L : List UInt8) {x : UInt8} {s : List UInt8} (h : signB.contains x = true) : toks L (x :: s) = (toks L s).map fun ts => ⟨.sign, [x], po L (x :: s)⟩ :: ts := by
  have h' : isW x = false ∧ x ≠ 34 ∧ x ≠ 91 ∧ x ≠ 40 := by
    have : ∀ n : Fin 256, signB.contains (UInt8.ofNat n.val) = true → isW (UInt8.ofNat n.val) = false ∧ UInt8.ofNat n.val ≠ 34 ∧ UInt8.ofNat n.val ≠ 91 ∧ UInt8.ofNat n.val ≠ 40 := by decide +kernel
    have := this ⟨x.toNat, x.toNat_lt⟩
    simp only [UInt8.ofNat_toNat] at this
    exact this h
  refine nn fun nG => ?_
  obtain ⟨n1, n2, n3, n4⟩ := h'
  refine nG ?_
  rw [toks_eq, wh_cons, n1, if_neg Bool.false_ne_true]
  dsimp only
  unfold tokP
  rw [if_neg n2, if_neg n3, if_neg n4, if_pos h]
theorem closed_esc (s : List UInt8) : ∀ l : List UInt8, closedP 34 [] (escP [34, 92] l ++ 34 :: s) = some (l, s)
  | [] => by
    rw [escP_nil, List.nil_append]
    unfold closedP
    rw [if_pos rfl]
  | x :: l => by
    rw [escP_cons]
    have ih := closed_esc s l
    by_cases h : ([34, 92] : List UInt8).contains x = true
    · rw [if_pos h]
      show closedP 34 [] (92 :: x :: (escP [34, 92] l ++ 34 :: s)) = _
      unfold closedP
      rw [if_neg (by decide), show ([] : List UInt8).contains 92 = false from rfl, if_neg Bool.false_ne_true, if_pos rfl]
      dsimp only
      rw [ih]; rfl
    · rw [if_neg h]
      have h1 : x ≠ 34 := fun e => h (by rw [e]; rfl)
      have h2 : x ≠ 92 := fun e => h (by rw [e]; rfl)
      show closedP 34 [] (x :: (escP [34, 92] l ++ 34 :: s)) = _
      unfold closedP
      rw [if_neg h1, show ([] : List UInt8).contains x = false from rfl, if_neg Bool.false_ne_true, if_neg h2, ih]; rfl
theorem toks_quo (L : List UInt8) (l s : List UInt8) : toks L (quoP l ++ s) = (toks L s).map fun ts => ⟨.quoted, l, po L (quoP l ++ s)⟩ :: ts := by
  rw [toks_eq]
  have e : quoP l ++ s = 34 :: (escP [34, 92] l ++ 34 :: s) := by unfold quoP; simp
  rw [e, wh_cons, show isW 34 = false from rfl, if_neg Bool.false_ne_true]
  dsimp only
  unfold tokP
  rw [if_pos rfl, closed_esc]; rfl

/- the words of a split -/
theorem isA46 : isA 46 = false := by decide
theorem isA32 : isA 32 = false := by decide
theorem split_ne {p : UInt8 → Bool} : ∀ l : List UInt8, splitAt1 p l ≠ []
  | [], h => by cases h
  | c :: r, h => by
    unfold splitAt1 at h
    split at h
    · cases h
    · split at h <;> cases h
theorem split_no (j : UInt8) : ∀ {w : List UInt8}, w.all (fun c => !(c == j)) = true → splitAt1 (fun y => y == j) w = [w]
  | [], _ => rfl
  | c :: w, h => by
    rw [List.all_cons, Bool.and_eq_true, Bool.not_eq_true'] at h
    unfold splitAt1
    rw [h.1, split_no j h.2]
theorem split_join (j : UInt8) (r : List UInt8) : ∀ {w : List UInt8}, w.all (fun c => !(c == j)) = true → splitAt1 (fun y => y == j) (w ++ j :: r) = w :: splitAt1 (fun y => y == j) r
  | [], _ => by
    rw [List.nil_append]
    conv => lhs; unfold splitAt1
    simp
  | c :: w, h => by
    rw [List.all_cons, Bool.and_eq_true, Bool.not_eq_true'] at h
    rw [List.cons_append]
    conv => lhs; unfold splitAt1
    rw [h.1, split_join j r h.2]
theorem all_no (j : UInt8) (hj : isA j = false) {w : List UInt8} (h : w.all isA = true) : w.all (fun c => !(c == j)) = true := by
  rw [List.all_eq_true] at h ⊢
  intro c hc
  have := h c hc
  induction q : c == j using Bool.casesOn with
  | false => rfl
  | true => rw [eq_of_beq q, hj] at this; exact nft this
/- a split's words, joined again -/
theorem jn_split (j : UInt8) : ∀ l : List UInt8, jn [j] (splitAt1 (fun y => y == j) l) = l
  | [] => rfl
  | c :: r => by
    have ih := jn_split j r
    unfold splitAt1
    induction q : c == j using Bool.casesOn with
    | true =>
      have := eq_of_beq q
      subst this
      induction e : splitAt1 (fun y => y == c) r using List.casesOn with
      | nil => exact absurd e (split_ne r)
      | cons w ws => rw [e] at ih; show [] ++ [c] ++ jn [c] (w :: ws) = _; rw [ih]; rfl
    | false =>
      induction e : splitAt1 (fun y => y == j) r using List.casesOn with
      | nil => exact absurd e (split_ne r)
      | cons w ws =>
        rw [e] at ih
        induction ws using List.casesOn with
        | nil => have ih : w = r := ih; show c :: w = _; rw [ih]
        | cons v ws =>
          have ih : w ++ [j] ++ jn [j] (v :: ws) = r := ih
          show c :: w ++ [j] ++ jn [j] (v :: ws) = _
          rw [← ih]; simp
end Mine
end
section
set_option maxRecDepth 100000
namespace Mine
open PySem

/- the list of places, whatever the fuel -/
theorem listL_fuel {β : Type} {P : List Tok → Option (β × List Tok)} (hP : Short P) : ∀ (n m : Nat) (r : List Tok), r.length < n → r.length < m → listL P n r = listL P m r
  | 0, _, r, h, _ => absurd h (Nat.not_lt_zero _)
  | _ + 1, 0, r, _, h => absurd h (Nat.not_lt_zero _)
  | n + 1, m + 1, r, h1, h2 => by
    unfold listL
    cases he : r.isEmpty || standsP [59] r with
    | true => rfl
    | false =>
      rw [if_neg Bool.false_ne_true, if_neg Bool.false_ne_true]
      induction h44 : standsP [44] r using Bool.casesOn with
      | true =>
        have := stands_tail h44
        rw [if_pos rfl, if_pos rfl, listL_fuel hP n m r.tail (by exact Nat.lt_of_lt_of_le this (Nat.le_of_lt_succ h1)) (by exact Nat.lt_of_lt_of_le this (Nat.le_of_lt_succ h2))]
      | false =>
        rw [if_neg Bool.false_ne_true, if_neg Bool.false_ne_true]
        induction e : P r using Option.casesOn with
        | none => rfl
        | some q =>
          have := (hP r q.1 q.2 e).2
          dsimp only
          rw [listL_fuel hP n m q.2 (by exact Nat.lt_of_lt_of_le this (Nat.le_of_lt_succ h1)) (by exact Nat.lt_of_lt_of_le this (Nat.le_of_lt_succ h2))]
theorem listP_eq {β : Type} {P : List Tok → Option (β × List Tok)} (hP : Short P) (r : List Tok) : listP P r = if r.isEmpty || standsP [59] r then some ([], r) else if standsP [44] r then listP P r.tail else match P r with
    | none => none
    | some (x, r') => if r'.isEmpty || (standsP [44] r' || standsP [59] r') then (listP P r').map fun q => (x :: q.1, q.2) else none := by
  unfold listP
  conv => lhs; unfold listL
  cases he : r.isEmpty || standsP [59] r with
  | true => rfl
  | false =>
    rw [if_neg Bool.false_ne_true, if_neg Bool.false_ne_true]
    induction h44 : standsP [44] r using Bool.casesOn with
    | true =>
      have := stands_tail h44
      rw [if_pos rfl, if_pos rfl, listL_fuel hP r.length (r.tail.length + 1) r.tail (by exact this) (by exact Nat.lt_succ_self _)]
    | false =>
      rw [if_neg Bool.false_ne_true, if_neg Bool.false_ne_true]
      induction e : P r using Option.casesOn with
      | none => rfl
      | some q =>
        have := (hP r q.1 q.2 e).2
        dsimp only
        rw [listL_fuel hP r.length (q.2.length + 1) q.2 (by exact this) (by exact Nat.lt_succ_self _)]

/- what the tokens of a printed piece are -/
noncomputable def Wrds (ts : List Tok) : Prop := ∀ t ∈ ts, isWrd t = true ∧ notC t = true
noncomputable def PhrTs (ts : List Tok) (l : List UInt8) : Prop := ts ≠ [] ∧ Wrds ts ∧ ∃ p, phraseP 0 false ts = some p ∧ p.flatten = l
noncomputable def LocTs (ts : List Tok) (l : List UInt8) : Prop := ts.length % 2 = 1 ∧ Wrds ts ∧ ∃ p, localP 0 ts = some p ∧ p.flatten = l
noncomputable def DomTs (i : Nat) (ts : List Tok) : Prop := (∀ t ∈ ts, notC t = true) ∧ ∀ r, standsP [46] r = false → domainP (ts ++ r) = some (domB i, r)
noncomputable def Sg (x : UInt8) (t : Tok) : Prop := t.kd = .sign ∧ t.w = [x]
theorem Sg.c {x : UInt8} {t : Tok} (h : Sg x t) : notC t = true := by unfold notC; rw [h.1]
noncomputable def phrB (l : List UInt8) : List UInt8 := if spcP l then l else quoP l
noncomputable def locB (l : List UInt8) : List UInt8 := if dotP l then l else quoP l
theorem map_app {α : Type} (o : Option (List α)) (a b : List α) : (o.map (a ++ ·)).map (b ++ ·) = o.map ((b ++ a) ++ ·) := by
  cases o <;> simp
theorem map_cons' {α : Type} (o : Option (List α)) (a : α) : (o.map fun ts => a :: ts) = o.map ([a] ++ ·) := rfl
theorem map_nil' {α : Type} (o : Option (List α)) : o.map (([] : List α) ++ ·) = o := by cases o <;> rfl

theorem toks_join (L : List UInt8) {s : List UInt8} (hs : stopA s = true) : ∀ {ws : List (List UInt8)}, ws ≠ [] → ws.all isAt = true → jn [32] ws ++ s <:+ L → ∃ ts, toks L (jn [32] ws ++ s) = (toks L s).map (ts ++ ·) ∧ ts.map (·.w) = ws ∧ ∀ t ∈ ts, t.kd = .atom ∧ 0 ≤ t.at_
  | [], h, _, _ => absurd rfl h
  | [w], _, h, su => by
    rw [List.all_cons, Bool.and_eq_true] at h
    refine ⟨[⟨.atom, w, po L (w ++ s)⟩], ?_, rfl, fun t ht => ?_⟩
    · exact toks_atom L h.1 hs
    · rw [List.mem_singleton.mp ht]; exact ⟨rfl, po_pos su⟩
  | w :: v :: ws, _, h, su => by
    rw [List.all_cons, Bool.and_eq_true] at h
    have e : jn [32] (w :: v :: ws) ++ s = w ++ (32 :: (jn [32] (v :: ws) ++ s)) := by
      show w ++ [32] ++ jn [32] (v :: ws) ++ s = _
      simp
    rw [e] at su ⊢
    have su2 : jn [32] (v :: ws) ++ s <:+ L := ((List.suffix_cons 32 _).trans (List.suffix_append w _)).trans su
    obtain ⟨ts, a, b, c⟩ := toks_join L hs (by simp) h.2 su2
    refine ⟨⟨.atom, w, po L (w ++ (32 :: (jn [32] (v :: ws) ++ s)))⟩ :: ts, ?_, by simp [b], fun t ht => ?_⟩
    · rw [toks_atom L h.1 (by rfl), toks_sp, a]
      cases toks L s <;> rfl
    · cases ht with
      | head => exact ⟨rfl, po_pos su⟩
      | tail _ ht => exact c t ht
theorem phr_rest : ∀ {ts : List Tok}, (∀ t ∈ ts, t.kd = .atom ∧ 0 ≤ t.at_) → phraseP (-1) true ts = some (ts.flatMap fun t => [[32], t.w])
  | [], _ => rfl
  | t :: ts, h => by
    obtain ⟨k, a⟩ := h t (.head _)
    have ih := phr_rest fun u hu => h u (.tail _ hu)
    have h1 : isPt t = false := by unfold isPt; rw [k]; rfl
    have h2 : isWd t = true := by unfold isWd; rw [k]; rfl
    unfold phraseP
    rw [h1, h2, if_neg Bool.false_ne_true, ih, decide_eq_false (by omega)]
    rfl
theorem jn_cons (j : UInt8) (w : List UInt8) : ∀ ws : List (List UInt8), jn [j] (w :: ws) = w ++ (ws.flatMap fun v => j :: v)
  | [] => by simp [jn]
  | v :: ws => by
    show w ++ [j] ++ jn [j] (v :: ws) = _
    rw [jn_cons j v ws]; simp
theorem phr_all {ts : List Tok} (hne : ts ≠ []) (h : ∀ t ∈ ts, t.kd = .atom ∧ 0 ≤ t.at_) : ∃ p, phraseP 0 false ts = some p ∧ p.flatten = jn [32] (ts.map (·.w)) := by
  induction ts using List.casesOn with
  | nil => exact absurd rfl hne
  | cons t ts =>
    obtain ⟨k, a⟩ := h t (.head _)
    have ih := phr_rest fun u hu => h u (.tail _ hu)
    have h1 : isPt t = false := by unfold isPt; rw [k]; rfl
    have h2 : isWd t = true := by unfold isWd; rw [k]; rfl
    refine ⟨t.w :: (ts.flatMap fun t => [[32], t.w]), ?_, ?_⟩
    · unfold phraseP
      rw [h1, h2, if_neg Bool.false_ne_true, ih]
      rfl
    · rw [List.map_cons, jn_cons]
      rw [List.flatten_cons]
      congr 1
      clear ih h hne
      induction ts with
      | nil => rfl
      | cons u us ih => simp [ih]
theorem wrds_atom {ts : List Tok} (h : ∀ t ∈ ts, t.kd = .atom ∧ 0 ≤ t.at_) : Wrds ts := fun t ht => by
  obtain ⟨k, _⟩ := h t ht
  unfold isWrd notC
  rw [k]; exact ⟨rfl, rfl⟩
theorem phr_toks {L l s : List UInt8} (hs : stopA s = true) (su : phrB l ++ s <:+ L) : ∃ ts, toks L (phrB l ++ s) = (toks L s).map (ts ++ ·) ∧ PhrTs ts l := by
  unfold phrB at su ⊢
  induction h : spcP l using Bool.casesOn with
  | true =>
    rw [h, if_pos rfl] at su
    skip
    have hj := jn_split 32 l
    unfold spcP at h
    refine nn fun nG => ?_
    obtain ⟨ts, a, b, c⟩ := toks_join L hs (split_ne l) h (by rw [hj]; exact su)
    rw [hj] at a
    have hne : ts ≠ [] := fun e => by rw [e] at b; exact split_ne l b.symm
    obtain ⟨p, d, e⟩ := phr_all hne c
    refine nG ?_
    rw [b, hj] at e
    exact ⟨ts, a, hne, wrds_atom c, p, d, e⟩
  | false =>
    skip
    refine ⟨[⟨.quoted, l, po L (quoP l ++ s)⟩], toks_quo L l s, by simp, fun t ht => ?_, [l], rfl, by simp⟩
    rw [List.mem_singleton.mp ht]; exact ⟨rfl, rfl⟩
theorem toks_dots (L : List UInt8) {s : List UInt8} (hs : stopA s = true) : ∀ {ws : List (List UInt8)}, ws ≠ [] → ws.all isAt = true → ∃ ts, toks L (jn [46] ws ++ s) = (toks L s).map (ts ++ ·) ∧ ts.length % 2 = 1 ∧ Wrds ts ∧ ∀ i, i % 2 = 0 → ∃ p, localP i ts = some p ∧ p.flatten = jn [46] ws
  | [], h, _ => absurd rfl h
  | [w], _, h => by
    rw [List.all_cons, Bool.and_eq_true] at h
    refine ⟨[⟨.atom, w, po L (w ++ s)⟩], toks_atom L h.1 hs, rfl, fun t ht => ?_, fun i hi => ⟨[w], ?_, by simp [jn]⟩⟩
    · rw [List.mem_singleton.mp ht]; exact ⟨rfl, rfl⟩
    · unfold localP
      rw [decide_eq_false (show ¬ i % 2 = 1 by omega)]; rfl
  | w :: v :: ws, _, h => by
    rw [List.all_cons, Bool.and_eq_true] at h
    have e : jn [46] (w :: v :: ws) ++ s = w ++ (46 :: (jn [46] (v :: ws) ++ s)) := by
      show w ++ [46] ++ jn [46] (v :: ws) ++ s = _
      simp
    rw [e]
    refine nn fun nG => ?_
    obtain ⟨ts, a, b, c, d⟩ := toks_dots L hs (by simp) h.2
    refine nG ?_
    refine ⟨⟨.atom, w, po L (w ++ (46 :: (jn [46] (v :: ws) ++ s)))⟩ :: ⟨.sign, [46], po L (46 :: (jn [46] (v :: ws) ++ s))⟩ :: ts, ?_, by simp only [List.length_cons]; omega, fun t ht => ?_, fun i hi => ?_⟩
    · rw [toks_atom L h.1 (by rfl), toks_sign L (by rfl), a]
      cases toks L s <;> rfl
    · rcases List.mem_cons.mp ht with rfl | ht
      · exact ⟨rfl, rfl⟩
      · rcases List.mem_cons.mp ht with rfl | ht
        · exact ⟨rfl, rfl⟩
        · exact c t ht
    · obtain ⟨p, d1, d2⟩ := d (i + 2) (by omega)
      refine ⟨w :: [46] :: p, ?_, ?_⟩
      · unfold localP
        rw [decide_eq_false (show ¬ i % 2 = 1 by omega)]
        unfold localP
        rw [decide_eq_true (show (i + 1) % 2 = 1 by omega), d1]; rfl
      · show w ++ ([46] ++ p.flatten) = w ++ [46] ++ jn [46] (v :: ws)
        rw [d2]; simp
theorem loc_toks {L l s : List UInt8} (hs : stopA s = true) : ∃ ts, toks L (locB l ++ s) = (toks L s).map (ts ++ ·) ∧ LocTs ts l := by
  unfold locB
  induction h : dotP l using Bool.casesOn with
  | true =>
    skip
    have hj := jn_split 46 l
    unfold dotP at h
    refine nn fun nG => ?_
    obtain ⟨ts, a, b, c, d⟩ := toks_dots L hs (split_ne l) h
    refine nG ?_
    rw [hj] at a d
    exact ⟨ts, a, b, c, d 0 rfl⟩
  | false =>
    skip
    refine ⟨[⟨.quoted, l, po L (quoP l ++ s)⟩], toks_quo L l s, rfl, fun t ht => ?_, [l], rfl, by simp⟩
    rw [List.mem_singleton.mp ht]; exact ⟨rfl, rfl⟩
theorem domL_one {t : Tok} (h : t.kd = .atom) {r : List Tok} (hr : standsP [46] r = false) : domL (t :: r) = some ([t.w], r) := by
  unfold domL
  rw [if_pos h]
  induction r using List.casesOn with
  | nil => rfl
  | cons p r => dsimp only; rw [hr, if_neg Bool.false_ne_true]
theorem domainP_atom {t : Tok} (h : t.kd = .atom) (r : List Tok) : domainP (t :: r) = (domL (t :: r)).map fun q => (jn [46] q.1, q.2) := by
  rw [show domainP (t :: r) = if t.kd = .literal then some (91 :: t.w ++ [93], r) else (domL (t :: r)).map fun q => (jn [46] q.1, q.2) from rfl, if_neg (by rw [h]; decide)]
theorem dom3 {a b c : Tok} (ha : a.kd = .atom) (hb : b.kd = .sign) (hw : b.w = [46]) (hc : c.kd = .atom) {r : List Tok} (hr : standsP [46] r = false) : domL (a :: b :: c :: r) = some ([a.w, c.w], r) := by
  unfold domL
  rw [if_pos ha]
  dsimp only
  have : standsP [46] (b :: c :: r) = true := by
    show (decide (b.kd = .sign) && decide (b.w = [46])) = true
    rw [decide_eq_true hb, decide_eq_true hw]; rfl
  rw [this, domL_one hc hr]; rfl
theorem dom_toks (L : List UInt8) {s : List UInt8} (hs : stopA s = true) (i : Nat) : ∃ ts, toks L (domB i ++ s) = (toks L s).map (ts ++ ·) ∧ DomTs i ts := by
  match i with
  | 0 =>
    have e : domB 0 ++ s = [120] ++ (46 :: ([111, 114, 103] ++ s)) := rfl
    refine ⟨[⟨.atom, [120], po L ([120] ++ (46 :: ([111, 114, 103] ++ s)))⟩, ⟨.sign, [46], po L (46 :: ([111, 114, 103] ++ s))⟩, ⟨.atom, [111, 114, 103], po L ([111, 114, 103] ++ s)⟩], ?_, fun t ht => ?_, fun r hr => ?_⟩
    · rw [e, toks_atom L (by decide) (by rfl), toks_sign L (by rfl), toks_atom L (by decide) hs]
      cases toks L s <;> rfl
    · simp only [List.mem_cons, List.not_mem_nil, or_false] at ht
      rcases ht with rfl | rfl | rfl <;> rfl
    · exact (domainP_atom rfl _).trans ((congrArg (Option.map fun q => (jn [46] q.1, q.2)) (dom3 rfl rfl rfl rfl hr)).trans rfl)
  | 1 =>
    have e : domB 1 ++ s = 91 :: ([49, 46, 50, 93] ++ s) := rfl
    have hc : closedP 93 [91] ([49, 46, 50, 93] ++ s) = some ([49, 46, 50], s) := by
      simp [closedP]
      unfold closedP
      rw [if_pos rfl]
    refine ⟨[⟨.literal, [49, 46, 50], po L (91 :: ([49, 46, 50, 93] ++ s))⟩], ?_, fun t ht => ?_, fun r hr => rfl⟩
    · rw [e, toks_eq, show wh (91 :: ([49, 46, 50, 93] ++ s)) = 91 :: ([49, 46, 50, 93] ++ s) from rfl]
      dsimp only
      unfold tokP
      rw [hc]
      rfl
    · rw [List.mem_singleton.mp ht]; rfl
  | i + 2 =>
    have e : domB (i + 2) ++ s = [100] ++ s := rfl
    refine ⟨[⟨.atom, [100], po L ([100] ++ s)⟩], ?_, fun t ht => ?_, fun r hr => ?_⟩
    · rw [e, toks_atom L (by decide) hs]
      cases toks L s <;> rfl
    · rw [List.mem_singleton.mp ht]; rfl
    · simp only [List.cons_append, List.nil_append]
      rw [domainP_atom rfl, domL_one rfl hr]; rfl
end Mine
end
section
set_option maxRecDepth 100000
namespace Mine
open PySem

theorem sg_yes {x : UInt8} {t : Tok} (h : Sg x t) (r : List Tok) : standsP [x] (t :: r) = true := by
  show (decide (t.kd = .sign) && decide (t.w = [x])) = true
  rw [decide_eq_true h.1, decide_eq_true h.2]; rfl
theorem sg_no {x y : UInt8} {t : Tok} (h : Sg x t) (hn : x ≠ y) (r : List Tok) : standsP [y] (t :: r) = false := by
  show (decide (t.kd = .sign) && decide (t.w = [y])) = false
  have : ¬ t.w = [y] := fun e => hn (by have := h.2.symm.trans e; simpa using this)
  rw [decide_eq_false this, Bool.and_false]
theorem at_no {t : Tok} (h : t.kd = .atom) (s : List UInt8) (r : List Tok) : standsP s (t :: r) = false := by
  show (decide (t.kd = .sign) && decide (t.w = s)) = false
  rw [h]; rfl
theorem words_app {x : UInt8} {t : Tok} (h : Sg x t) (hx : x ≠ 46) (r : List Tok) : ∀ {ts : List Tok}, Wrds ts → wordsP (ts ++ t :: r) = ts ∧ restP (ts ++ t :: r) = t :: r
  | [], _ => by
    have : isWrd t = false := by
      unfold isWrd
      rw [decide_eq_true h.1, h.2, decide_eq_false (by simpa using hx)]; rfl
    unfold wordsP restP
    rw [List.nil_append, List.takeWhile_cons, List.dropWhile_cons, this]
    exact ⟨rfl, rfl⟩
  | u :: ts, hw => by
    obtain ⟨a, b⟩ := words_app h hx r (ts := ts) fun v hv => hw v (.tail _ hv)
    have hu := (hw u (.head _)).1
    unfold wordsP at a
    unfold restP at b
    unfold wordsP restP
    rw [List.cons_append, List.takeWhile_cons, List.dropWhile_cons, hu, a, b]
    exact ⟨rfl, rfl⟩
theorem noC_all {ts : List Tok} (h : ∀ t ∈ ts, notC t = true) : ts.filter notC = ts := List.filter_eq_self.mpr h
theorem Wrds.noC {ts : List Tok} (h : Wrds ts) : ts.filter notC = ts := noC_all fun t ht => (h t ht).2
theorem mail_name {P D : List Tok} {l : List UInt8} {i : Nat} {a1 tp a2 a3 : Tok} {r : List Tok} (hP : PhrTs P l) (hD : DomTs i D) (h1 : Sg 60 a1) (hp : tp.kd = .atom) (hpw : tp.w = [112]) (h2 : Sg 64 a2) (h3 : Sg 62 a3) :
    mailboxP P (a1 :: tp :: a2 :: (D ++ a3 :: r)) = some (⟨l, [112], domB i⟩, r) := by
  refine nn fun nG => ?_
  obtain ⟨_, hw, p, e1, e2⟩ := hP
  refine nG ?_
  unfold mailboxP
  rw [sg_yes h1, if_pos rfl, hw.noC, e1]
  dsimp only [List.tail_cons]
  have hr : routeP (tp :: a2 :: (D ++ a3 :: r)) = some (tp :: a2 :: (D ++ a3 :: r)) := by
    unfold routeP
    rw [at_no hp, at_no hp]; rfl
  rw [hr]
  have hwp : Wrds [tp] := fun t ht => by
    rw [List.mem_singleton.mp ht]
    unfold isWrd notC
    rw [hp]; exact ⟨rfl, rfl⟩
  obtain ⟨w1, w2⟩ := words_app h2 (by decide) (D ++ a3 :: r) hwp
  rw [List.singleton_append] at w1 w2
  dsimp only
  rw [w1, w2]
  unfold finP
  have hl : localP 0 [tp] = some [[112]] := by
    unfold localP
    rw [hp, hpw]; rfl
  rw [hl]
  dsimp only
  rw [sg_yes h2, if_pos rfl]
  dsimp only [List.tail_cons]
  rw [hD.2 _ (sg_no h3 (by decide) r)]
  dsimp only
  rw [sg_yes h3, e2]
  rfl
theorem mail_place {Lc D : List Tok} {l : List UInt8} {i : Nat} {a6 : Tok} {r : List Tok} (hL : LocTs Lc l) (hD : DomTs i D) (h6 : Sg 64 a6) (hr : standsP [46] r = false) :
    mailboxP Lc (a6 :: (D ++ r)) = some (⟨[], l, domB i⟩, r) := by
  refine nn fun nG => ?_
  obtain ⟨ho, hw, p, e1, e2⟩ := hL
  refine nG ?_
  unfold mailboxP
  rw [sg_no h6 (by decide), if_neg Bool.false_ne_true]
  unfold finP
  rw [e1]
  dsimp only
  rw [if_neg (by omega), sg_yes h6, if_pos rfl]
  dsimp only [List.tail_cons]
  rw [hD.2 r hr]
  dsimp only
  rw [if_neg Bool.false_ne_true, e2]
theorem place_mb {W : List Tok} {x : UInt8} {a : Tok} {r r' : List Tok} {m : Mb} (hW : Wrds W) (ha : Sg x a) (h46 : x ≠ 46) (h58 : x ≠ 58) (hm : mailboxP W (a :: r) = some (m, r')) :
    placeIn (W ++ a :: r) = some (m, r') ∧ placeOut (W ++ a :: r) = some (.mb m, r') := by
  refine nn fun nG => ?_
  obtain ⟨w1, w2⟩ := words_app ha h46 r hW
  refine nG ?_
  unfold placeIn placeOut
  rw [w1, w2, sg_no ha h58, hm]
  exact ⟨rfl, rfl⟩
/- the first sign of a list of words -/
theorem wrds_stand {W : List Tok} (hW : Wrds W) (hne : W ≠ []) {y : UInt8} (hy : y ≠ 46) (r : List Tok) : standsP [y] (W ++ r) = false ∧ (W ++ r).isEmpty = false := by
  induction W using List.casesOn with
  | nil => exact absurd rfl hne
  | cons t W =>
    have := (hW t (.head _)).1
    refine ⟨?_, rfl⟩
    show (decide (t.kd = .sign) && decide (t.w = [y])) = false
    unfold isWrd at this
    induction hk : decide (t.kd = .sign) using Bool.casesOn with
    | false => rfl
    | true =>
      rw [hk] at this
      have hw : t.w = [46] := by simpa using this
      rw [hw, decide_eq_false (by simpa using fun e : (46 : UInt8) = y => hy e.symm)]; rfl
theorem loc_ne {W : List Tok} {l : List UInt8} (h : LocTs W l) : W ≠ [] := fun e => by rw [e] at h; exact absurd h.1 (by decide)
theorem list_end {β : Type} {P : List Tok → Option (β × List Tok)} (hP : Short P) {r : List Tok} (h : (r.isEmpty || standsP [59] r) = true) : listP P r = some ([], r) := by
  rw [listP_eq hP, if_pos h]
theorem list_one {β : Type} {P : List Tok → Option (β × List Tok)} (hP : Short P) {W r r' : List Tok} {x : β} (hW : Wrds W) (hne : W ≠ []) (h : P (W ++ r) = some (x, r')) (hr : (r'.isEmpty || (standsP [44] r' || standsP [59] r')) = true) : listP P (W ++ r) = (listP P r').map fun q => (x :: q.1, q.2) := by
  rw [listP_eq hP]
  refine nn fun nG => ?_
  obtain ⟨a1, a2⟩ := wrds_stand hW hne (y := 59) (by decide) r
  obtain ⟨a3, _⟩ := wrds_stand hW hne (y := 44) (by decide) r
  refine nG ?_
  rw [a1, a2, a3, if_neg (by decide), if_neg (by decide), h]
  dsimp only
  rw [if_pos hr]
theorem list_comma {β : Type} {P : List Tok → Option (β × List Tok)} (hP : Short P) {t : Tok} (ht : Sg 44 t) (r : List Tok) : listP P (t :: r) = listP P r := by
  rw [listP_eq hP, sg_no ht (by decide), sg_yes ht]; rfl
theorem place_group {W Lc D : List Tok} {l : List UInt8} {i : Nat} {a5 a6 a7 : Tok} {r : List Tok} (hW : PhrTs W l) (hL : LocTs Lc l) (hD : DomTs i D) (h5 : Sg 58 a5) (h6 : Sg 64 a6) (h7 : Sg 59 a7) :
    placeOut (W ++ a5 :: (Lc ++ a6 :: (D ++ a7 :: r))) = some (.grp l [⟨[], l, domB i⟩], r) := by
  refine nn fun nG => ?_
  obtain ⟨hne, hw, p, e1, e2⟩ := hW
  obtain ⟨w1, w2⟩ := words_app h5 (by decide) (Lc ++ a6 :: (D ++ a7 :: r)) hw
  refine nG ?_
  unfold placeOut
  rw [w2, sg_yes h5, if_pos rfl]
  unfold groupP
  rw [w1, w2]
  have : W.isEmpty = false := by induction W using List.casesOn with
    | nil => exact absurd rfl hne
    | cons _ _ => rfl
  rw [this, hw.noC, e1]
  dsimp only [List.tail_cons]
  have hm := mail_place (r := a7 :: r) hL hD h6 (sg_no h7 (by decide) r)
  have hpl := (place_mb hL.2.1 h6 (by decide) (by decide) hm).1
  rw [list_one short_in hL.2.1 (loc_ne hL) hpl (by rw [sg_yes h7]; simp)]
  rw [list_end short_in (by rw [sg_yes h7]; simp)]
  dsimp only [Option.map]
  rw [sg_yes h7, e2]
  rfl
/- the readings -/
theorem readP_of {L : List UInt8} {ts : List Tok} (h : toks L L = some ts) (hc : ∀ t ∈ ts, notC t = true) {xs : List Item} (hl : listP placeOut ts = some (xs, [])) : readP L = some xs := by
  unfold readP
  have h : toksP L (L.length + 1) L = some ts := h
  rw [h]
  dsimp only
  rw [noC_all hc, hl]
  rfl
theorem PhrTs.ne {W : List Tok} {l : List UInt8} (h : PhrTs W l) : W ≠ [] := h.1
theorem PhrTs.wr {W : List Tok} {l : List UInt8} (h : PhrTs W l) : Wrds W := h.2.1
noncomputable def outP (l : List UInt8) (i : Nat) : List UInt8 := phrB l ++ (32 :: 60 :: 112 :: 64 :: (domB i ++ (62 :: 44 :: 32 :: (phrB l ++ (58 :: 32 :: (locB l ++ (64 :: (domB i ++ [59]))))))))
theorem suf_app {α : Type} (a : List α) {s t : List α} (h : s <:+ t) : s <:+ a ++ t := h.trans (List.suffix_append a t)
theorem suf_cons {α : Type} (a : α) {s t : List α} (h : s <:+ t) : s <:+ a :: t := h.trans (List.suffix_cons a t)
theorem read_out (l : List UInt8) (i : Nat) : readP (outP l i) = some [.mb ⟨l, [112], domB i⟩, .grp l [⟨[], l, domB i⟩]] := by
  generalize hL : outP l i = L
  have hL' : outP l i <:+ L := by rw [hL]; exact List.suffix_refl _
  unfold outP at hL'
  refine nn fun nG => ?_
  obtain ⟨P1, t1, p1⟩ := phr_toks (by rfl) hL'
  obtain ⟨D1, t2, p2⟩ := dom_toks L (s := 62 :: 44 :: 32 :: (phrB l ++ (58 :: 32 :: (locB l ++ (64 :: (domB i ++ [59])))))) (by rfl) i
  have hL2 : phrB l ++ (58 :: 32 :: (locB l ++ (64 :: (domB i ++ [59])))) <:+ L := by
    refine List.IsSuffix.trans ?_ hL'
    exact suf_app _ (suf_cons _ (suf_cons _ (suf_cons _ (suf_cons _ (suf_app _ (suf_cons _ (suf_cons _ (suf_cons _ (List.suffix_refl _)))))))))
  obtain ⟨P2, t3, p3⟩ := phr_toks (by rfl) hL2
  obtain ⟨Lc, t4, p4⟩ := loc_toks (L := L) (l := l) (s := 64 :: (domB i ++ [59])) (by rfl)
  obtain ⟨D2, t5, p5⟩ := dom_toks L (s := [59]) (by rfl) i
  refine nG ?_
  have e1 : toks L L = toks L (outP l i) := by rw [hL]
  have eA : ∀ s, toks L ([112] ++ (64 :: s)) = (toks L (64 :: s)).map fun ts => ⟨.atom, [112], po L ([112] ++ (64 :: s))⟩ :: ts := fun s => toks_atom L (by decide) (by rfl)
  simp only [List.singleton_append] at eA
  unfold outP at e1
  rw [t1, toks_sp, toks_sign L (x := 60) (by rfl), eA, toks_sign L (x := 64) (by rfl), t2, toks_sign L (x := 62) (by rfl), toks_sign L (x := 44) (by rfl), toks_sp, t3, toks_sign L (x := 58) (by rfl), toks_sp, t4, toks_sign L (x := 64) (by rfl), t5, toks_sign L (x := 59) (by rfl), toks_nil] at e1
  simp only [Option.map_some] at e1
  refine readP_of e1 ?_ ?_
  · intro t ht
    simp only [List.mem_append, List.mem_cons, List.not_mem_nil, or_false] at ht
    rcases ht with h | rfl | rfl | rfl | h | rfl | rfl | h | rfl | h | rfl | h | rfl
    · exact (p1.wr t h).2
    · rfl
    · rfl
    · rfl
    · exact p2.1 t h
    · rfl
    · rfl
    · exact (p3.wr t h).2
    · rfl
    · exact (p4.2.1 t h).2
    · rfl
    · exact p5.1 t h
    · rfl
  · have m1 := mail_name (r := (⟨.sign, [44], po L (44 :: 32 :: (phrB l ++ 58 :: 32 :: (locB l ++ 64 :: (domB i ++ [59]))))⟩ : Tok) :: (P2 ++ (⟨.sign, [58], po L (58 :: 32 :: (locB l ++ 64 :: (domB i ++ [59])))⟩ : Tok) :: (Lc ++ (⟨.sign, [64], po L (64 :: (domB i ++ [59]))⟩ : Tok) :: (D2 ++ [(⟨.sign, [59], po L [59]⟩ : Tok)]))))
      (a1 := ⟨.sign, [60], po L (60 :: 112 :: 64 :: (domB i ++ 62 :: 44 :: 32 :: (phrB l ++ 58 :: 32 :: (locB l ++ 64 :: (domB i ++ [59])))))⟩) (tp := ⟨.atom, [112], po L (112 :: 64 :: (domB i ++ 62 :: 44 :: 32 :: (phrB l ++ 58 :: 32 :: (locB l ++ 64 :: (domB i ++ [59])))))⟩) (a2 := ⟨.sign, [64], po L (64 :: (domB i ++ 62 :: 44 :: 32 :: (phrB l ++ 58 :: 32 :: (locB l ++ 64 :: (domB i ++ [59])))))⟩) (a3 := ⟨.sign, [62], po L (62 :: 44 :: 32 :: (phrB l ++ 58 :: 32 :: (locB l ++ 64 :: (domB i ++ [59]))))⟩)
      p1 p2 ⟨rfl, rfl⟩ rfl rfl ⟨rfl, rfl⟩ ⟨rfl, rfl⟩
    have q1 := (place_mb p1.wr ⟨rfl, rfl⟩ (by decide) (by decide) m1).2
    rw [list_one short_out p1.wr p1.ne q1 (by rw [sg_yes ⟨rfl, rfl⟩]; simp)]
    rw [list_comma short_out ⟨rfl, rfl⟩]
    have q2 := place_group (r := []) (a5 := ⟨.sign, [58], po L (58 :: 32 :: (locB l ++ 64 :: (domB i ++ [59])))⟩) (a6 := ⟨.sign, [64], po L (64 :: (domB i ++ [59]))⟩) (a7 := ⟨.sign, [59], po L [59]⟩) p3 p4 p5 ⟨rfl, rfl⟩ ⟨rfl, rfl⟩ ⟨rfl, rfl⟩
    rw [list_one short_out p3.wr p3.ne q2 (by rfl)]
    rfl
theorem read_place {l : List UInt8} (h : dotP l = true) (i : Nat) : readP (l ++ 64 :: domB i) = some [.mb ⟨[], l, domB i⟩] := by
  generalize hL : l ++ 64 :: domB i = L
  have hl : locB l = l := by unfold locB; rw [h]; rfl
  refine nn fun nG => ?_
  obtain ⟨Lc, t4, p4⟩ := loc_toks (L := L) (l := l) (s := 64 :: (domB i ++ [])) (by rfl)
  obtain ⟨D2, t5, p5⟩ := dom_toks L (s := []) (by rfl) i
  refine nG ?_
  have e1 : toks L L = toks L (locB l ++ 64 :: (domB i ++ [])) := by rw [hl, List.append_nil, hL]
  rw [t4, toks_sign L (x := 64) (by rfl), t5, toks_nil] at e1
  simp only [Option.map_some] at e1
  refine readP_of e1 ?_ ?_
  · intro t ht
    simp only [List.mem_append, List.mem_cons, List.not_mem_nil, or_false] at ht
    rcases ht with h | rfl | h
    · exact (p4.2.1 t h).2
    · rfl
    · exact p5.1 t h
  · have m1 := mail_place (r := []) (a6 := ⟨.sign, [64], po L (64 :: (domB i ++ []))⟩) p4 p5 ⟨rfl, rfl⟩ rfl
    have q1 := (place_mb p4.2.1 ⟨rfl, rfl⟩ (by decide) (by decide) m1).2
    rw [list_one short_out p4.2.1 (loc_ne p4) q1 (by rfl)]
    rfl
theorem read_name {l : List UInt8} (h : spcP l = true) (i : Nat) : readP (l ++ 32 :: 60 :: 112 :: 64 :: (domB i ++ [62])) = some [.mb ⟨l, [112], domB i⟩] := by
  generalize hL : l ++ 32 :: 60 :: 112 :: 64 :: (domB i ++ [62]) = L
  have hl : phrB l = l := by unfold phrB; rw [h]; rfl
  have hL' : phrB l ++ 32 :: 60 :: 112 :: 64 :: (domB i ++ [62]) <:+ L := by rw [hl, hL]; exact List.suffix_refl _
  refine nn fun nG => ?_
  obtain ⟨P1, t1, p1⟩ := phr_toks (by rfl) hL'
  obtain ⟨D1, t2, p2⟩ := dom_toks L (s := [62]) (by rfl) i
  refine nG ?_
  have e1 : toks L L = toks L (phrB l ++ 32 :: 60 :: 112 :: 64 :: (domB i ++ [62])) := by rw [hl, hL]
  have eA : ∀ s, toks L ([112] ++ (64 :: s)) = (toks L (64 :: s)).map fun ts => ⟨.atom, [112], po L ([112] ++ (64 :: s))⟩ :: ts := fun s => toks_atom L (by decide) (by rfl)
  simp only [List.singleton_append] at eA
  rw [t1, toks_sp, toks_sign L (x := 60) (by rfl), eA, toks_sign L (x := 64) (by rfl), t2, toks_sign L (x := 62) (by rfl), toks_nil] at e1
  simp only [Option.map_some] at e1
  refine readP_of e1 ?_ ?_
  · intro t ht
    simp only [List.mem_append, List.mem_cons, List.not_mem_nil, or_false] at ht
    rcases ht with h | rfl | rfl | rfl | h | rfl
    · exact (p1.wr t h).2
    · rfl
    · rfl
    · rfl
    · exact p2.1 t h
    · rfl
  · have m1 := mail_name (r := []) (a1 := ⟨.sign, [60], po L (60 :: 112 :: 64 :: (domB i ++ [62]))⟩) (tp := ⟨.atom, [112], po L (112 :: 64 :: (domB i ++ [62]))⟩) (a2 := ⟨.sign, [64], po L (64 :: (domB i ++ [62]))⟩) (a3 := ⟨.sign, [62], po L [62]⟩) p1 p2 ⟨rfl, rfl⟩ rfl rfl ⟨rfl, rfl⟩ ⟨rfl, rfl⟩
    have q1 := (place_mb p1.wr ⟨rfl, rfl⟩ (by decide) (by decide) m1).2
    rw [list_one short_out p1.wr p1.ne q1 (by rfl)]
    rfl
end Mine
end
section
set_option maxRecDepth 100000
namespace Mine
open PySem

/- the count of quotes -/
noncomputable abbrev qc (r : List UInt8) : Nat := r.count 34
noncomputable def cost (t : Tok) : Nat := match t.kd with
  | .comment => 0
  | .quoted => qc t.w + 2
  | _ => qc t.w
noncomputable def costs (ts : List Tok) : Nat := (ts.map cost).sum
noncomputable def Wf (t : Tok) : Prop := 0 ≤ t.at_ ∧ (t.kd = .atom → isAt t.w = true)
theorem qc_cons (x : UInt8) (r : List UInt8) : qc r ≤ qc (x :: r) ∧ qc (x :: r) ≤ qc r + 1 := by
  unfold qc; rw [List.count_cons]; split <;> omega
theorem qc_add (x : UInt8) (a b : List UInt8) (k : Nat) (h : qc a + k ≤ qc b) : qc (x :: a) + k ≤ qc (x :: b) := by
  unfold qc at *; rw [List.count_cons, List.count_cons]; split <;> (first | exact chk [_,_,_] (.h 1 (.a (.v 0) (.v 1)) (.v 2) .z) 1 (.a (.a (.v 0) (.n 1)) (.v 1)) (.a (.v 2) (.n 1)) rfl h | exact chk [_,_,_] (.h 1 (.a (.v 0) (.v 1)) (.v 2) .z) 1 (.a (.a (.v 0) (.n 0)) (.v 1)) (.a (.v 2) (.n 0)) rfl h)
set_option tactic.hygienic true in
theorem closed_cost {c : UInt8} {e : List UInt8} : ∀ {r w r' : List UInt8}, closedP c e r = some (w, r') → qc w + (if c = 34 then 1 else 0) + qc r' ≤ qc r
  | [], w, r', h => by exact nns h
  | x :: r, w, r', h => by
    unfold closedP at h
    split at h
    · rename_i hx
      cases h
      unfold qc
      rw [hx]
      by_cases q : c = 34
      · simp [q]; exact chk [_] .z 1 (.a (.n 1) (.v 0)) (.a (.v 0) (.n 1)) rfl
      · simp [q]
    · split at h
      · exact nns h
      · split at h
        · split at h
          · exact nns h
          · rename_i y r
            induction q : closedP c e r using Option.casesOn with
            | none => rw [q] at h; exact nns h
            | some p =>
              rw [q] at h; cases h
              have := closed_cost q
              have := (qc_cons x (y :: r)).1
              unfold qc at *
              rw [List.count_cons] at *
              exact chk [_,_,_,_,_,_] (.h 1 (.a (.a (.v 0) (.v 2)) (.v 3)) (.v 5) (.h 1 (.a (.v 5) (.v 1)) (.v 4) .z)) 1 (.a (.a (.a (.v 0) (.v 1)) (.v 2)) (.v 3)) (.v 4) rfl (by assumption) this
        · induction q : closedP c e r using Option.casesOn with
          | none => rw [q] at h; exact nns h
          | some p =>
            rw [q] at h; cases h
            have := closed_cost q
            unfold qc at *
            rw [List.count_cons, List.count_cons]
            exact chk [_,_,_,_,_] (.h 1 (.a (.a (.v 0) (.v 2)) (.v 3)) (.v 4) .z) 1 (.a (.a (.a (.v 0) (.v 1)) (.v 2)) (.v 3)) (.a (.v 4) (.v 1)) rfl this
theorem qc_suf {a b : List UInt8} (h : a <:+ b) : qc a ≤ qc b := h.sublist.count_le 34
theorem tokP_cost {a : Int} {x : UInt8} {r : List UInt8} {t : Tok} {r' : List UInt8} (h : tokP a x r = some (t, r')) : cost t + qc r' ≤ qc (x :: r) := by
  have h' := h
  unfold tokP at h
  split at h
  · rename_i hx
    induction q : closedP 34 [] r using Option.casesOn with
    | none => rw [q] at h; exact nns h
    | some p =>
      rw [q] at h; cases h
      have := closed_cost q
      rw [if_pos rfl] at this
      show qc p.1 + 2 + qc p.2 ≤ _
      unfold qc at *
      rw [hx]
      simp
      exact chk [_,_,_] (.h 1 (.a (.a (.v 0) (.n 1)) (.v 1)) (.v 2) .z) 1 (.a (.a (.v 0) (.n 2)) (.v 1)) (.a (.v 2) (.n 1)) rfl this
  split at h
  · induction q : closedP 93 [91] r using Option.casesOn with
    | none => rw [q] at h; exact nns h
    | some p =>
      rw [q] at h; cases h
      have := closed_cost q
      rw [if_neg (by decide)] at this
      have := (qc_cons x r).1
      show qc p.1 + qc p.2 ≤ _
      exact chk [_,_,_,_] (.h 1 (.a (.a (.v 0) (.n 0)) (.v 1)) (.v 3) (.h 1 (.v 3) (.v 2) .z)) 1 (.a (.v 0) (.v 1)) (.v 2) rfl (by assumption) this
  split at h
  · induction q : commentP r 1 using Option.casesOn with
    | none => rw [q] at h; exact nns h
    | some p =>
      rw [q] at h; cases h
      have := qc_suf (commentP_suf q).1
      have := (qc_cons x r).1
      show 0 + qc p.2 ≤ _
      exact chk [_,_,_] (.h 1 (.v 0) (.v 2) (.h 1 (.v 2) (.v 1) .z)) 1 (.a (.n 0) (.v 0)) (.v 1) rfl (by assumption) this
  split at h
  · cases h
    show qc [x] + qc r ≤ _
    unfold qc
    rw [List.count_cons, List.count_cons]
    exact chk [_,_] .z 1 (.a (.a (.n 0) (.v 0)) (.v 1)) (.a (.v 1) (.v 0)) rfl
  split at h
  · cases h
    show qc ((x :: r).takeWhile isA) + qc ((x :: r).dropWhile isA) ≤ qc (x :: r)
    unfold qc
    rw [← List.count_append, List.takeWhile_append_dropWhile]
    exact Nat.le_refl _
  · exact nns h
theorem all_take (l : List UInt8) : (l.takeWhile isA).all isA = true := by
  induction l with
  | nil => rfl
  | cons x l ih =>
    rw [List.takeWhile_cons]
    induction h : isA x using Bool.casesOn with
    | true => rw [if_pos rfl, List.all_cons, h, ih]; rfl
    | false => rfl
theorem tokP_wf {a : Int} {x : UInt8} {r : List UInt8} {t : Tok} {r' : List UInt8} (h : tokP a x r = some (t, r')) (ha : 0 ≤ a) : Wf t := by
  refine ⟨by rw [(tokP_suf h).2.2]; exact ha, fun hk => ?_⟩
  unfold tokP at h
  split at h
  · induction q : closedP 34 [] r using Option.casesOn with
    | none => rw [q] at h; exact nns h
    | some p => rw [q] at h; cases h; cases hk
  split at h
  · induction q : closedP 93 [91] r using Option.casesOn with
    | none => rw [q] at h; exact nns h
    | some p => rw [q] at h; cases h; cases hk
  split at h
  · induction q : commentP r 1 using Option.casesOn with
    | none => rw [q] at h; exact nns h
    | some p => rw [q] at h; cases h; cases hk
  split at h
  · cases h; cases hk
  split at h
  · rename_i hx
    cases h
    show (!((x :: r).takeWhile isA).isEmpty && ((x :: r).takeWhile isA).all isA) = true
    rw [all_take, List.takeWhile_cons, if_pos hx]; rfl
  · exact nns h
set_option tactic.hygienic true in
theorem toksP_facts {L : List UInt8} : ∀ {n : Nat} {r : List UInt8} {ts : List Tok}, r <:+ L → toksP L n r = some ts → costs ts ≤ qc r ∧ ∀ t ∈ ts, Wf t
  | 0, r, ts, _, h => by cases h
  | n + 1, r, ts, s, h => by
    unfold toksP at h
    have hw := qc_suf (wh_suf r)
    have sw := (wh_suf r).trans s
    split at h
    · cases h; exact ⟨Nat.zero_le _, fun t ht => nim ht⟩
    · rename_i x r1 e
      rw [e] at hw sw
      split at h
      · exact nns h
      · rename_i t r' q
        have hc := tokP_cost q
        have hf := tokP_wf q (po_pos sw)
        have sr := (tokP_suf q).1.trans (suf_tail sw)
        induction q2 : toksP L n r' using Option.casesOn with
        | none => rw [q2] at h; exact nns h
        | some us =>
          rw [q2] at h; cases h
          obtain ⟨a, b⟩ := toksP_facts sr q2
          refine ⟨?_, fun u hu => ?_⟩
          · show cost t + costs us ≤ _
            exact chk [_,_,_,_,_] (.h 1 (.v 3) (.v 2) (.h 1 (.a (.v 0) (.v 4)) (.v 3) (.h 1 (.v 1) (.v 4) .z))) 1 (.a (.v 0) (.v 1)) (.v 2) rfl hw hc a
          · rcases List.mem_cons.mp hu with rfl | hu
            · exact hf
            · exact b u hu

/- where a read mailbox comes from -/
set_option tactic.hygienic true in
theorem listL_mem {β : Type} {P : List Tok → Option (β × List Tok)} (hP : Short P) : ∀ {n : Nat} {r : List Tok} {xs : List β} {r' : List Tok}, listL P n r = some (xs, r') → ∀ x ∈ xs, ∃ r1 r2, r1 <:+ r ∧ P r1 = some (x, r2)
  | 0, r, xs, r', h, _, _ => by exact nns h
  | n + 1, r, xs, r', h, x, hx => by
    unfold listL at h
    split at h
    · cases h; exact nim hx
    · split at h
      · obtain ⟨r1, r2, a, b⟩ := listL_mem hP h x hx
        exact ⟨r1, r2, a.trans (List.tail_suffix r), b⟩
      · split at h
        · exact nns h
        · rename_i y r1 e
          split at h
          · induction e2 : listL P n r1 using Option.casesOn with
            | none => rw [e2] at h; exact nns h
            | some q =>
              rw [e2] at h; cases h
              rcases List.mem_cons.mp hx with rfl | hx
              · exact ⟨r, r1, List.suffix_refl _, e⟩
              · obtain ⟨r2, r3, a, b⟩ := listL_mem hP e2 x hx
                exact ⟨r2, r3, a.trans (hP _ _ _ e).1, b⟩
          · exact nns h
set_option tactic.hygienic true in
theorem read_from {L : List UInt8} {m : Mb} (h : readP L = some [.mb m]) : ∃ ts, costs ts ≤ qc L ∧ (∀ t ∈ ts, Wf t ∧ notC t = true) ∧ ∃ r r', r <:+ ts ∧ mailboxP (wordsP r) (restP r) = some (m, r') := by
  unfold readP at h
  split at h
  · exact nns h
  · rename_i ts e
    obtain ⟨hc, hf⟩ := toksP_facts (List.suffix_refl L) e
    split at h
    · exact nns h
    · rename_i xs r e2
      split at h
      · cases h
        obtain ⟨r1, r2, a, b⟩ := listL_mem short_out e2 _ (.head _)
        refine ⟨ts.filter notC, ?_, fun t ht => ?_, r1, r2, a, ?_⟩
        · refine Nat.le_trans ?_ hc
          have : (ts.filter notC).Sublist ts := List.filter_sublist
          have : ∀ {a b : List Tok}, a.Sublist b → costs a ≤ costs b := by
            intro a b h
            induction h with
            | slnil => exact Nat.le_refl _
            | cons x _ ih => show _ ≤ cost x + costs _; exact chk [_,_,_] (.h 1 (.v 0) (.v 2) .z) 1 (.v 0) (.a (.v 1) (.v 2)) rfl ih
            | cons_cons x _ ih => show cost x + costs _ ≤ cost x + costs _; exact chk [_,_,_] (.h 1 (.v 1) (.v 2) .z) 1 (.a (.v 0) (.v 1)) (.a (.v 0) (.v 2)) rfl ih
          exact this List.filter_sublist
        · rw [List.mem_filter] at ht
          exact ⟨hf t ht.1, ht.2⟩
        · unfold placeOut at b
          split at b
          · unfold groupP at b
            split at b
            · exact nns b
            · split at b
              · exact nns b
              · split at b
                · exact nns b
                · split at b <;> cases b
          · induction e3 : mailboxP (wordsP r1) (restP r1) using Option.casesOn with
            | none => rw [e3] at b; exact nns b
            | some q => rw [e3] at b; cases b; rfl
      · exact nns h
theorem costs_sub : ∀ {a b : List Tok}, a.Sublist b → costs a ≤ costs b := by
  intro a b h
  induction h with
  | slnil => exact Nat.le_refl _
  | cons x _ ih => show _ ≤ cost x + costs _; exact chk [_,_,_] (.h 1 (.v 0) (.v 2) .z) 1 (.v 0) (.a (.v 1) (.v 2)) rfl ih
  | cons_cons x _ ih => show cost x + costs _ ≤ cost x + costs _; exact chk [_,_,_] (.h 1 (.v 1) (.v 2) .z) 1 (.a (.v 0) (.v 1)) (.a (.v 0) (.v 2)) rfl ih
theorem words_sub {r ts : List Tok} (h : r <:+ ts) : (wordsP r).Sublist ts := (List.takeWhile_sublist _).trans h.sublist
theorem words_wrd (r : List Tok) : ∀ t ∈ wordsP r, isWrd t = true := by
  unfold wordsP
  induction r with
  | nil => intro t ht; exact nim ht
  | cons u r ih =>
    intro t ht
    rw [List.takeWhile_cons] at ht
    split at ht
    · rename_i hu
      rcases List.mem_cons.mp ht with rfl | ht
      · exact hu
      · exact ih t ht
    · exact nim ht
set_option tactic.hygienic true in
theorem finP_from {nm : List UInt8} {ang : Bool} {ws r : List Tok} {m : Mb} {r' : List Tok} (h : finP nm ang ws r = some (m, r')) : m.nm = nm ∧ ws.length % 2 = 1 ∧ ∃ p, localP 0 ws = some p ∧ m.lo = p.flatten := by
  unfold finP at h
  split at h
  · exact nns h
  rename_i lo e
  split at h
  · exact nns h
  rename_i ho
  split at h
  · split at h
    · exact nns h
    · split at h
      · split at h
        · cases h; exact ⟨rfl, by omega, lo, e, rfl⟩
        · exact nns h
      · cases h; exact ⟨rfl, by omega, lo, e, rfl⟩
  · exact nns h
set_option tactic.hygienic true in
theorem mailbox_lo {r : List Tok} {m : Mb} {r' : List Tok} (h : mailboxP (wordsP r) (restP r) = some (m, r')) : ∃ r1, r1 <:+ r ∧ (wordsP r1).length % 2 = 1 ∧ ∃ p, localP 0 (wordsP r1) = some p ∧ m.lo = p.flatten := by
  unfold mailboxP at h
  split at h
  · split at h
    · exact nns h
    · split at h
      · exact nns h
      · rename_i r1 e
        obtain ⟨_, a, b⟩ := finP_from h
        exact ⟨r1, ((routeP_suf e).trans (List.tail_suffix _)).trans (rest_suf r), a, b⟩
  · refine nn fun nG => ?_
    obtain ⟨_, a, b⟩ := finP_from h
    refine nG ?_
    exact ⟨r, List.suffix_refl _, a, b⟩
set_option tactic.hygienic true in
theorem mailbox_nm {r : List Tok} {m : Mb} {r' : List Tok} (h : mailboxP (wordsP r) (restP r) = some (m, r')) (hn : m.nm ≠ []) : ∃ p, phraseP 0 false ((wordsP r).filter notC) = some p ∧ m.nm = p.flatten := by
  unfold mailboxP at h
  split at h
  · split at h
    · exact nns h
    · rename_i nm e
      split at h
      · exact nns h
      · exact ⟨nm, e, (finP_from h).1⟩
  · exact absurd (finP_from h).1 hn
/- no quoted word where the quotes are as many as in the worths -/
noncomputable def noQ (ts : List Tok) : Prop := ∀ t ∈ ts, t.kd ≠ .quoted
theorem cost_ge {t : Tok} (h : notC t = true) : qc t.w ≤ cost t := by
  obtain ⟨k, w, a⟩ := t
  cases k with
  | comment => exact nft h
  | quoted => show qc w ≤ qc w + 2; exact chk [_] .z 1 (.v 0) (.a (.v 0) (.n 2)) rfl
  | _ => exact Nat.le_refl _
theorem noQ_of : ∀ {ts : List Tok}, (∀ t ∈ ts, notC t = true) → costs ts ≤ (ts.map fun t => qc t.w).sum → noQ ts
  | [], _, _ => fun t ht => nim ht
  | u :: ts, hc, h => by
    have h : cost u + costs ts ≤ qc u.w + (ts.map fun t => qc t.w).sum := h
    have h1 := cost_ge (hc u (.head _))
    have h2 : ∀ {us : List Tok}, (∀ t ∈ us, notC t = true) → (us.map fun t => qc t.w).sum ≤ costs us := by
      intro us
      induction us with
      | nil => intro _; exact Nat.le_refl _
      | cons v us ih =>
        intro h
        have := cost_ge (h v (.head _))
        have := ih fun t ht => h t (.tail _ ht)
        show qc v.w + (us.map fun t => qc t.w).sum ≤ cost v + costs us
        exact chk [_,_,_,_] (.h 1 (.v 0) (.v 2) (.h 1 (.v 1) (.v 3) .z)) 1 (.a (.v 0) (.v 1)) (.a (.v 2) (.v 3)) rfl (by assumption) this
    have h3 := h2 fun t ht => hc t (.tail _ ht)
    intro t ht
    rcases List.mem_cons.mp ht with rfl | ht
    · intro hk
      have : cost t = qc t.w + 2 := by unfold cost; rw [hk]
      exact Nat.not_succ_le_zero 0 (chk [_,_,_,_] (.h 1 (.v 0) (.v 1) (.h 1 (.a (.v 2) (.v 1)) (.a (.v 3) (.v 0)) (.h 1 (.a (.v 3) (.n 2)) (.v 2) .z))) 1 (.n 1) (.n 0) rfl h3 h (Nat.le_of_eq (Eq.symm this)))
    · exact noQ_of (fun v hv => hc v (.tail _ hv)) (by exact chk [_,_,_,_] (.h 1 (.a (.v 2) (.v 0)) (.a (.v 3) (.v 1)) (.h 1 (.v 3) (.v 2) .z)) 1 (.v 0) (.v 1) rfl h h1) t ht
theorem local_qc : ∀ {ts : List Tok} {i : Nat} {p : List (List UInt8)}, localP i ts = some p → qc p.flatten = (ts.map fun t => qc t.w).sum
  | [], i, p, h => by cases h; rfl
  | t :: ts, i, p, h => by
    unfold localP at h
    split at h
    · split at h
      · exact nns h
      · induction e : localP (i + 1) ts using Option.casesOn with
        | none => rw [e] at h; exact nns h
        | some q =>
          rw [e] at h; cases h
          have := local_qc e
          show qc (t.w ++ q.flatten) = qc t.w + (ts.map fun t => qc t.w).sum
          unfold qc at *
          rw [List.count_append, this]
    · exact nns h
theorem phrase_qc : ∀ {ts : List Tok} {g : Int} {st : Bool} {p : List (List UInt8)}, phraseP g st ts = some p → qc p.flatten = (ts.map fun t => qc t.w).sum
  | [], g, st, p, h => by cases h; rfl
  | t :: ts, g, st, p, h => by
    unfold phraseP at h
    split at h
    · induction e : phraseP (if isPt t then t.at_ + 1 else -1) true ts using Option.casesOn with
      | none => rw [e] at h; exact nns h
      | some q =>
        rw [e] at h; cases h
        have := phrase_qc e
        rw [List.flatten_append, List.flatten_cons]
        show _ = qc t.w + (ts.map fun t => qc t.w).sum
        unfold qc at *
        rw [List.count_append, List.count_append, this]
        split <;> simp
    · exact nns h
/- a local part of atoms and points -/
theorem local_dot : ∀ {ts : List Tok} {i : Nat} {p : List (List UInt8)}, localP i ts = some p → i % 2 = 0 → ts.length % 2 = 1 → (∀ t ∈ ts, Wf t ∧ notC t = true) → noQ ts → (∀ t ∈ ts, isWrd t = true) → dotP p.flatten = true
  | [], i, p, h, hi, hl, _, _, _ => absurd hl (by decide)
  | [t], i, p, h, hi, hl, hf, hq, hw => by
    unfold localP at h
    split at h
    · rename_i hk
      rw [decide_eq_false (show ¬ i % 2 = 1 by omega)] at hk
      have hk : t.kd ≠ .sign := by simpa using hk
      split at h
      · exact nns h
      · rename_i hlit
        cases h
        obtain ⟨f, c⟩ := hf t (.head _)
        have hq := hq t (.head _)
        have ha : t.kd = .atom := by
          unfold notC at c
          cases e : t.kd with
          | atom => rfl
          | quoted => exact absurd e hq
          | literal => exact absurd e hlit
          | comment => rw [e] at c; exact nft c
          | sign => exact absurd e hk
        have hA := f.2 ha
        rw [List.flatten_cons, List.flatten_nil, List.append_nil]
        unfold dotP
        have : t.w.all isA = true := by unfold isAt at hA; rw [Bool.and_eq_true] at hA; exact hA.2
        rw [split_no 46 (all_no 46 isA46 this), List.all_cons, hA]; rfl
    · exact nns h
  | t :: u :: ts, i, p, h, hi, hl, hf, hq, hw => by
    unfold localP at h
    split at h
    · rename_i hk
      rw [decide_eq_false (show ¬ i % 2 = 1 by omega)] at hk
      have hk : t.kd ≠ .sign := by simpa using hk
      split at h
      · exact nns h
      · rename_i hlit
        induction e : localP (i + 1) (u :: ts) using Option.casesOn with
        | none => rw [e] at h; exact nns h
        | some q =>
          rw [e] at h; cases h
          unfold localP at e
          split at e
          · rename_i hu
            rw [decide_eq_true (show (i + 1) % 2 = 1 by omega)] at hu
            have hu : u.kd = .sign := by simpa using hu
            split at e
            · exact nns e
            · induction e2 : localP (i + 1 + 1) ts using Option.casesOn with
              | none => rw [e2] at e; exact nns e
              | some q2 =>
                rw [e2] at e; cases e
                have ih := local_dot e2 (by omega) (by simp only [List.length_cons] at hl; omega) (fun v hv => hf v (.tail _ (.tail _ hv))) (fun v hv => hq v (.tail _ (.tail _ hv))) fun v hv => hw v (.tail _ (.tail _ hv))
                have huw : u.w = [46] := by
                  have := hw u (.tail _ (.head _))
                  unfold isWrd at this
                  rw [decide_eq_true hu] at this
                  simpa using this
                obtain ⟨f, c⟩ := hf t (.head _)
                have hq := hq t (.head _)
                have ha : t.kd = .atom := by
                  unfold notC at c
                  cases e : t.kd with
                  | atom => rfl
                  | quoted => exact absurd e hq
                  | literal => exact absurd e hlit
                  | comment => rw [e] at c; exact nft c
                  | sign => exact absurd e hk
                have hA := f.2 ha
                have : t.w.all isA = true := by unfold isAt at hA; rw [Bool.and_eq_true] at hA; exact hA.2
                show dotP (t.w ++ (u.w ++ q2.flatten)) = true
                rw [huw]
                unfold dotP at ih ⊢
                rw [List.singleton_append, split_join 46 _ (all_no 46 isA46 this), List.all_cons, hA, ih]; rfl
          · exact nns e
    · exact nns h
theorem phrase_spc : ∀ {ts : List Tok} {p : List (List UInt8)}, ts ≠ [] → phraseP (-1) true ts = some p → (∀ t ∈ ts, Wf t ∧ notC t = true) → noQ ts → (∀ t ∈ ts, isPt t = false) → ∃ w, p.flatten = 32 :: w ∧ spcP w = true
  | [], p, h, _, _, _, _ => absurd rfl h
  | t :: ts, p, _, h, hf, hq, hp => by
    obtain ⟨f, c⟩ := hf t (.head _)
    have hq0 := hq t (.head _)
    have hp0 := hp t (.head _)
    unfold phraseP at h
    rw [hp0] at h
    split at h
    · rename_i hw
      rw [Bool.or_false] at hw
      have ha : t.kd = .atom := by
        unfold isWd at hw
        cases e : t.kd with
        | atom => rfl
        | quoted => exact absurd e hq0
        | _ => rw [e] at hw; exact absurd hw (by decide)
      have hA := f.2 ha
      have hall : t.w.all isA = true := by unfold isAt at hA; rw [Bool.and_eq_true] at hA; exact hA.2
      have hg : decide (t.at_ = (-1 : Int)) = false := decide_eq_false (by have := f.1; omega)
      rw [hg, if_neg Bool.false_ne_true] at h
      induction e : phraseP (-1) true ts using Option.casesOn with
      | none => rw [e] at h; exact nns h
      | some q =>
        rw [e] at h; cases h
        refine ⟨t.w ++ q.flatten, by simp, ?_⟩
        induction ts using List.casesOn with
        | nil =>
          cases e
          unfold spcP
          rw [List.flatten_nil, List.append_nil, split_no 32 (all_no 32 isA32 hall), List.all_cons, hA]; rfl
        | cons u ts =>
          obtain ⟨w, e1, e2⟩ := phrase_spc (by simp) e (fun v hv => hf v (.tail _ hv)) (fun v hv => hq v (.tail _ hv)) fun v hv => hp v (.tail _ hv)
          rw [e1]
          unfold spcP at e2 ⊢
          rw [split_join 32 _ (all_no 32 isA32 hall), List.all_cons, hA, e2]; rfl
    · exact nns h
theorem phrase_spc0 {ts : List Tok} {p : List (List UInt8)} (hne : p.flatten ≠ []) (h : phraseP 0 false ts = some p) (hf : ∀ t ∈ ts, Wf t ∧ notC t = true) (hq : noQ ts) (hp : ∀ t ∈ ts, isPt t = false) : spcP p.flatten = true := by
  induction ts using List.casesOn with
  | nil => cases h; exact absurd rfl hne
  | cons t ts =>
    obtain ⟨f, c⟩ := hf t (.head _)
    have hq0 := hq t (.head _)
    have hp0 := hp t (.head _)
    unfold phraseP at h
    rw [hp0] at h
    split at h
    · rename_i hw
      rw [Bool.or_false] at hw
      have ha : t.kd = .atom := by
        unfold isWd at hw
        cases e : t.kd with
        | atom => rfl
        | quoted => exact absurd e hq0
        | _ => rw [e] at hw; exact absurd hw (by decide)
      have hA := f.2 ha
      have hall : t.w.all isA = true := by unfold isAt at hA; rw [Bool.and_eq_true] at hA; exact hA.2
      rw [if_neg Bool.false_ne_true] at h
      induction e : phraseP (-1) true ts using Option.casesOn with
      | none => rw [e] at h; exact nns h
      | some q =>
        rw [e] at h; cases h
        show spcP (t.w ++ q.flatten) = true
        induction ts using List.casesOn with
        | nil =>
          cases e
          unfold spcP
          rw [List.flatten_nil, List.append_nil, split_no 32 (all_no 32 isA32 hall), List.all_cons, hA]; rfl
        | cons u ts =>
          refine nn fun nG => ?_
          obtain ⟨w, e1, e2⟩ := phrase_spc (by simp) e (fun v hv => hf v (.tail _ hv)) (fun v hv => hq v (.tail _ hv)) fun v hv => hp v (.tail _ hv)
          refine nG ?_
          rw [e1]
          unfold spcP at e2 ⊢
          rw [split_join 32 _ (all_no 32 isA32 hall), List.all_cons, hA, e2]; rfl
    · exact nns h
theorem phrase_pt : ∀ {ts : List Tok} {g : Int} {st : Bool} {p : List (List UInt8)}, phraseP g st ts = some p → (46 : UInt8) ∉ p.flatten → ∀ t ∈ ts, isPt t = false
  | [], g, st, p, h, hn, t, ht => nim ht
  | u :: ts, g, st, p, h, hn, t, ht => by
    unfold phraseP at h
    split at h
    · induction e : phraseP (if isPt u then u.at_ + 1 else -1) true ts using Option.casesOn with
      | none => rw [e] at h; exact nns h
      | some q =>
        rw [e] at h; cases h
        rw [List.flatten_append, List.flatten_cons] at hn
        rcases List.mem_cons.mp ht with rfl | ht
        · induction hp : isPt t using Bool.casesOn with
          | false => rfl
          | true =>
            exfalso
            unfold isPt at hp
            rw [Bool.and_eq_true, decide_eq_true_eq, decide_eq_true_eq] at hp
            apply hn
            rw [hp.2]
            simp
        · exact phrase_pt e (fun hm => hn (List.mem_append.mpr (.inr (List.mem_append.mpr (.inr hm))))) t ht
    · exact nns h
theorem dom_qc (i : Nat) : qc (domB i) = 0 := by
  unfold domB domS
  split <;> rfl
theorem neg_place {l : List UInt8} {i : Nat} {m : Mb} (h : readP (l ++ 64 :: domB i) = some [.mb m]) (hm : m.lo = l) : dotP l = true := by
  refine nn fun nG => ?_
  obtain ⟨ts, hc, hf, r, r', hr, hmb⟩ := read_from h
  obtain ⟨r1, s1, ho, p, e, hlo⟩ := mailbox_lo hmb
  refine nG ?_
  have sub := words_sub (s1.trans hr)
  have hq : qc (l ++ 64 :: domB i) = qc l := by
    have := dom_qc i
    unfold qc at *
    rw [List.count_append, List.count_cons, this]; rfl
  have hlq := local_qc e
  rw [← hlo, hm] at hlq
  have hn : noQ (wordsP r1) := noQ_of (fun t ht => (hf t (sub.mem ht)).2) (by have := costs_sub sub; exact Nat.le_trans (Nat.le_trans (Nat.le_trans this hc) (Nat.le_of_eq hq)) (Nat.le_of_eq hlq))
  have := local_dot e rfl ho (fun t ht => hf t (sub.mem ht)) hn (words_wrd r1)
  rw [← hlo, hm] at this
  exact this
theorem neg_name {l : List UInt8} {i : Nat} {m : Mb} (h : readP (l ++ 32 :: 60 :: 112 :: 64 :: (domB i ++ [62])) = some [.mb m]) (hm : m.nm = l) (hl : l ≠ []) (h46 : (46 : UInt8) ∉ l) : spcP l = true := by
  refine nn fun nG => ?_
  obtain ⟨ts, hc, hf, r, r', hr, hmb⟩ := read_from h
  obtain ⟨p, e, hnm⟩ := mailbox_nm hmb (by rw [hm]; exact hl)
  refine nG ?_
  have sub := words_sub hr
  have hfil : (wordsP r).filter notC = wordsP r := noC_all fun t ht => (hf t (sub.mem ht)).2
  rw [hfil] at e
  have hq : qc (l ++ 32 :: 60 :: 112 :: 64 :: (domB i ++ [62])) = qc l := by
    have := dom_qc i
    simp only [List.count_append, List.count_cons, this]; rfl
  have hpq := phrase_qc e
  rw [← hnm, hm] at hpq
  have hn : noQ (wordsP r) := noQ_of (fun t ht => (hf t (sub.mem ht)).2) (by have := costs_sub sub; exact Nat.le_trans (Nat.le_trans (Nat.le_trans this hc) (Nat.le_of_eq hq)) (Nat.le_of_eq hpq))
  rw [hm] at hnm
  have := phrase_spc0 (by rw [← hnm]; exact hl) e (fun t ht => hf t (sub.mem ht)) hn (phrase_pt e (by rw [← hnm]; exact h46))
  rw [← hnm] at this
  exact this
end Mine
end
section
set_option maxRecDepth 100000
namespace Mine
open PySem
variable {lf : Nat} {pf : PF} {mf : MF}

theorem oc_cons (c : Nat) (t : List Nat) : oc (c :: t) = UInt8.ofNat c :: oc t := rfl
theorem isA_bad {c : Nat} (h : c ≤ 255) : isA (UInt8.ofNat c) = !badN c := by
  have : ∀ n : Fin 256, isA (UInt8.ofNat n.val) = !badN n.val := by decide +kernel
  exact this ⟨c, by exact Nat.lt_of_le_of_lt h (by decide)⟩
theorem split_oc (j : Nat) (hj : j ≤ 255) : ∀ {t : List Nat}, oct t = true → splitAt1 (fun y => y == UInt8.ofNat j) (oc t) = (splitAt1 (fun y => y == j) t).map oc
  | [], _ => rfl
  | c :: t, h => by
    obtain ⟨h1, h2⟩ := oct_cons h
    have e : (UInt8.ofNat c == UInt8.ofNat j) = (c == j) := by
      rw [u8_ne hj c h1]
      show Nat.beq c j = _
      induction q : Nat.beq c j using Bool.casesOn with
      | true => rw [Nat.eq_of_beq_eq_true q]; simp
      | false =>
        refine (beq_eq_false_iff_ne.mpr fun z => ?_).symm
        rw [z, Nat.beq_refl] at q; exact ntf q
    rw [oc_cons]
    unfold splitAt1
    rw [e, split_oc j hj h2]
    induction c == j using Bool.casesOn with
    | true => rfl
    | false =>
      induction splitAt1 (fun y => y == j) t using List.casesOn with
      | nil => rfl
      | cons w ws => rfl
set_option tactic.hygienic true in
theorem oct_split (j : Nat) : ∀ {t : List Nat}, oct t = true → ∀ w ∈ splitAt1 (fun y => y == j) t, oct w = true
  | [], _, w, h => by simp [splitAt1] at h; subst h; rfl
  | c :: t, h, w, hw => by
    obtain ⟨h1, h2⟩ := oct_cons h
    have ih := oct_split j h2
    unfold splitAt1 at hw
    split at hw
    · cases hw with
      | head => rfl
      | tail _ hw => exact ih w hw
    · split at hw
      · simp at hw; subst hw; simp [oct, h1]
      · rename_i v vs e
        rw [e] at ih
        cases hw with
        | head =>
          have := ih v (.head _)
          unfold oct at this ⊢
          rw [List.all_cons, this, decide_eq_true h1]; rfl
        | tail _ hw => exact ih w (.tail _ hw)
theorem isAt_oc {w : List Nat} (h : oct w = true) : isAt (oc w) = (!w.isEmpty && w.all fun c => !badN c) := by
  have h2 : ∀ {w : List Nat}, oct w = true → (oc w).all isA = w.all fun c => !badN c := by
    intro w
    induction w with
    | nil => intro _; rfl
    | cons c w ih =>
      intro h
      obtain ⟨h1, h2⟩ := oct_cons h
      rw [oc_cons, List.all_cons, List.all_cons, ih h2, isA_bad h1]
  unfold isAt
  rw [h2 h]
  cases w <;> rfl
theorem bare_oc (j : Nat) (hj : j ≤ 255) {t : List Nat} (h : oct t = true) : bareP j t = (splitAt1 (fun y => y == UInt8.ofNat j) (oc t)).all isAt := by
  rw [split_oc j hj h]
  unfold bareP
  have : ∀ ws : List (List Nat), (∀ w ∈ ws, oct w = true) → (ws.all fun w => !w.isEmpty && w.all fun c => !badN c) = (ws.map oc).all isAt := by
    intro ws
    induction ws with
    | nil => intro _; rfl
    | cons w ws ih =>
      intro h
      rw [List.all_cons, List.map_cons, List.all_cons, ih fun v hv => h v (.tail _ hv), isAt_oc (h w (.head _))]
  exact this _ (oct_split j h)
theorem bare_spc {t : List Nat} (h : oct t = true) : bareP 32 t = spcP (oc t) := bare_oc 32 (by decide) h
theorem bare_dot {t : List Nat} (h : oct t = true) : bareP 46 t = dotP (oc t) := bare_oc 46 (by decide) h

/- texts -/
theorem tx_inj {a b : List UInt8} (h : tx a = tx b) : a = b := by
  have h : (tx a).cps.toList = (tx b).cps.toList := by rw [h]
  have h : a.map UInt8.toNat = b.map UInt8.toNat := h
  exact List.map_inj_right (fun x y e => UInt8.toNat_inj.mp e) |>.mp h
theorem tx_oc {t : List Nat} (h : oct t = true) : tx (oc t) = sS t := by
  unfold tx
  congr 1
  induction t with
  | nil => rfl
  | cons c t ih =>
    obtain ⟨h1, h2⟩ := oct_cons h
    rw [oc_cons, List.map_cons, ih h2]
    congr 1
    simp
    exact Nat.lt_of_le_of_lt h1 (by decide)
noncomputable def heardB (L : List UInt8) (m : Mb) : Bool := match readP L with
  | some [.mb m'] => decide (tx m'.nm = tx m.nm) && (decide (tx m'.lo = tx m.lo) && decide (tx m'.dm = tx m.dm))
  | _ => false
set_option tactic.hygienic true in
theorem heard_place (l : List UInt8) (i : Nat) : heardB (l ++ 64 :: domB i) ⟨[], l, domB i⟩ = dotP l := by
  induction h : dotP l using Bool.casesOn with
  | true => unfold heardB; rw [read_place h i]; simp
  | false =>
    unfold heardB
    split
    · rename_i m' e
      rw [Bool.and_eq_false_iff]
      right
      rw [Bool.and_eq_false_iff]
      left
      refine decide_eq_false fun q => ?_
      rw [neg_place e (tx_inj q)] at h
      exact ntf h
    · rfl
set_option tactic.hygienic true in
theorem heard_name {l : List UInt8} (hl : l ≠ []) (h46 : (46 : UInt8) ∉ l) (i : Nat) : heardB (l ++ 32 :: 60 :: 112 :: 64 :: (domB i ++ [62])) ⟨l, [112], domB i⟩ = spcP l := by
  induction h : spcP l using Bool.casesOn with
  | true => unfold heardB; rw [read_name h i]; simp
  | false =>
    unfold heardB
    split
    · rename_i m' e
      rw [Bool.and_eq_false_iff]
      left
      refine decide_eq_false fun q => ?_
      rw [neg_name e (tx_inj q) hl h46] at h
      exact ntf h
    · rfl
/- the comparisons of what is told -/
theorem tEq_str (n : Nat) (a b : Str) : tEq (n + 1) (.str a) (.str b) = some (decide (a = b)) := rfl
theorem tAll_refl (n : Nat) : ∀ {xs : List PV}, (∀ x ∈ xs, tEq n x x = some true) → tAll (tEq n) xs xs = some true
  | [], _ => rfl
  | x :: xs, h => by
    show (match tEq n x x, tAll (tEq n) xs xs with
    | some a, some b => some (a && b)
    | _, _ => .none) = _
    rw [h x (.head _), tAll_refl n fun y hy => h y (.tail _ hy)]; rfl
theorem tEq_refl_s (n : Nat) (a : Str) : tEq (n + 1) (.str a) (.str a) = some true := by rw [tEq_str, decide_eq_true rfl]
theorem tEq_told (n : Nat) (m : Mb) : tEq (n + 2) (toldM m) (toldM m) = some true := by
  refine tAll_refl (n + 1) fun x hx => ?_
  simp only [List.mem_cons, List.not_mem_nil, or_false] at hx
  rcases hx with rfl | rfl | rfl | rfl <;> exact tEq_refl_s n _
theorem eq_lists (σ : List Cell) (xs ys : List PV) : cmp σ .Eq (.lst xs) (.lst ys) = (match decide (xs.length = ys.length) with
    | true => tAll (tEq 8) xs ys
    | false => some false) := rfl
theorem ne_lists (σ : List Cell) (xs ys : List PV) : cmp σ .NotEq (.lst xs) (.lst ys) = (match (match decide (xs.length = ys.length) with
    | true => tAll (tEq 8) xs ys
    | false => some false) with
    | some c => some (!c)
    | .none => .none) := rfl
theorem told_both (σ : List Cell) (a b : Mb) (l : List UInt8) : cmp σ .NotEq (.lst ([Item.mb a, .grp l [b]].map toldI)) (.lst [toldM a, .tup [.str (sOf "group"), .str (tx l), .tup [toldM b]]]) = some false := by
  skip
  show (match (tAll (tEq 8) [toldM a, .tup [.str (sOf "group"), .str (tx l), .tup [toldM b]]] [toldM a, .tup [.str (sOf "group"), .str (tx l), .tup [toldM b]]]) with
    | some c => some (!c)
    | .none => .none) = _
  rw [tAll_refl 8 fun x hx => ?_]
  · rfl
  · simp only [List.mem_cons, List.not_mem_nil, or_false] at hx
    rcases hx with rfl | rfl
    · exact tEq_told 6 a
    · refine tAll_refl 7 fun x hx => ?_
      simp only [List.mem_cons, List.not_mem_nil, or_false] at hx
      rcases hx with rfl | rfl | rfl
      · exact tEq_refl_s 6 _
      · exact tEq_refl_s 6 _
      · refine tAll_refl 6 fun x hx => ?_
        rw [List.mem_singleton.mp hx]
        exact tEq_told 4 b
theorem told_one (σ : List Cell) (xs : List Item) (m : Mb) : cmp σ .Eq (.lst (xs.map toldI)) (.lst [toldM m]) = some (match xs with
  | [.mb m'] => decide (tx m'.nm = tx m.nm) && (decide (tx m'.lo = tx m.lo) && decide (tx m'.dm = tx m.dm))
  | _ => false) := by
  rw [eq_lists]
  match xs with
  | [] => rfl
  | [.mb m'] =>
    show tAll (tEq 8) [toldM m'] [toldM m] = _
    show some ((decide (sOf "mailbox" = sOf "mailbox") && (decide (tx m'.nm = tx m.nm) && (decide (tx m'.lo = tx m.lo) && (decide (tx m'.dm = tx m.dm) && true)))) && true) = _
    rw [decide_eq_true rfl, Bool.true_and, Bool.and_true, Bool.and_true]
  | [.grp nm ms] =>
    show some ((decide (sOf "group" = sOf "mailbox") && (decide (tx nm = tx m.nm) && (false && false))) && true) = _
    simp
  | x :: y :: xs =>
    have : decide (((x :: y :: xs).map toldI).length = [toldM m].length) = false := decide_eq_false (by simp)
    skip
    cases x <;> rfl
theorem heard_cmp (σ : List Cell) (L : List UInt8) (m : Mb) {k : Bool → Out} {κ : PV → Out} (hκ : ∀ x, κ x = opt (cmp σ .Eq x (.lst [toldM m])) k) : (match readP L with
  | none => κ .none
  | some xs => κ (.lst (xs.map toldI))) = k (heardB L m) := by
  unfold heardB
  induction readP L using Option.casesOn with
  | none => dsimp only; rw [hκ]; rfl
  | some xs =>
    dsimp only
    rw [hκ, told_one]
    match xs with
    | [] => rfl
    | [.mb m'] => rfl
    | [.grp nm ms] => rfl
    | x :: y :: xs => cases x <;> rfl
end Mine
end
section
set_option maxRecDepth 100000
namespace Mine
open PySem
variable {lf : Nat} {pf : PF} {mf : MF}

theorem orQ_ok {b : Bool} {l : List UInt8} (h : l.any never = false) (κ : KV) : orQ b l κ = κ (bB (if b then l else quoP l)) [] := by
  unfold orQ
  induction b using Bool.casesOn with
  | true => rfl
  | false => rw [h]; rfl
theorem orQ_no {l : List UInt8} (h : l.any never = true) (κ : KV) : orQ false l κ = .exc := by
  unfold orQ
  rw [if_neg Bool.false_ne_true, if_pos h]
theorem split_all (j : UInt8) : ∀ {l : List UInt8}, (splitAt1 (fun y => y == j) l).all isAt = true → ∀ c ∈ l, isA c = true ∨ c = j := by
  have gen : ∀ {l : List UInt8}, ((splitAt1 (fun y => y == j) l).all fun w => w.all isA) = true → ∀ c ∈ l, isA c = true ∨ c = j := by
    intro l
    induction l with
    | nil => intro _ c hc; exact nim hc
    | cons x l ih =>
      intro h c hc
      unfold splitAt1 at h
      induction q : x == j using Bool.casesOn with
      | true =>
        rw [q] at h
        rcases List.mem_cons.mp hc with rfl | hc
        · exact .inr (eq_of_beq q)
        · exact ih (by simpa using h) c hc
      | false =>
        rw [q] at h
        induction e : splitAt1 (fun y => y == j) l using List.casesOn with
        | nil => exact absurd e (split_ne l)
        | cons w ws =>
          rw [e] at h ih
          simp only [List.all_cons, Bool.and_eq_true] at h ih
          rcases List.mem_cons.mp hc with rfl | hc
          · exact .inl h.1.1
          · exact ih ⟨h.1.2, h.2⟩ c hc
  intro l h
  refine gen ?_
  rw [List.all_eq_true] at h ⊢
  intro w hw
  have := h w hw
  unfold isAt at this
  rw [Bool.and_eq_true] at this
  exact this.2
theorem never_isA {c : UInt8} (h : never c = true) : isA c = false ∧ c ≠ 32 ∧ c ≠ 46 := by
  have : ∀ n : Fin 256, never (UInt8.ofNat n.val) = true → isA (UInt8.ofNat n.val) = false ∧ UInt8.ofNat n.val ≠ 32 ∧ UInt8.ofNat n.val ≠ 46 := by decide +kernel
  have := this ⟨c.toNat, c.toNat_lt⟩
  simp only [UInt8.ofNat_toNat] at this
  exact this h
theorem never_not {l : List UInt8} (h : l.any never = true) : spcP l = false ∧ dotP l = false := by
  rw [List.any_eq_true] at h
  refine nn fun nG => ?_
  obtain ⟨c, hc, hn⟩ := h
  obtain ⟨a, b, d⟩ := never_isA hn
  refine nG ?_
  constructor
  · induction q : spcP l using Bool.casesOn with
    | false => rfl
    | true =>
      rcases split_all 32 q c hc with e | e
      · rw [a] at e; cases e
      · exact absurd e b
  · induction q : dotP l using Bool.casesOn with
    | false => rfl
    | true =>
      rcases split_all 46 q c hc with e | e
      · rw [a] at e; cases e
      · exact absurd e d
noncomputable def badT (t : List Nat) : Bool := t.any fun c => anyInt (c : Int) [0, 10, 13, 256]
noncomputable def Sml (t : List Nat) : Prop := t ≠ [] ∧ t.length ≤ 50 ∧ ∀ c ∈ t, c ≤ 256
theorem any4 (c : Nat) : anyInt (c : Int) [0, 10, 13, 256] = (decide (c = 0) || (decide (c = 10) || (decide (c = 13) || decide (c = 256)))) := by
  have e : ∀ n : Nat, decide ((c : Int) = (n : Int)) = decide (c = n) := fun n => decide_eq_decide.mpr (by omega)
  show (decide ((c : Int) = (0 : Nat)) || (decide ((c : Int) = (10 : Nat)) || (decide ((c : Int) = (13 : Nat)) || (decide ((c : Int) = (256 : Nat)) || false)))) = _
  rw [e, e, e, e, Bool.or_false]
theorem never_nat {c : Nat} (h : c ≤ 255) : never (UInt8.ofNat c) = (decide (c = 0) || (decide (c = 10) || decide (c = 13))) := by
  have : ∀ n : Fin 256, never (UInt8.ofNat n.val) = (decide (n.val = 0) || (decide (n.val = 10) || decide (n.val = 13))) := by decide +kernel
  exact this ⟨c, by exact Nat.lt_of_le_of_lt h (by decide)⟩
theorem good_t : ∀ {t : List Nat}, (∀ c ∈ t, c ≤ 256) → badT t = false → oct t = true ∧ (oc t).any never = false
  | [], _, _ => ⟨rfl, rfl⟩
  | c :: t, h, hb => by
    unfold badT at hb
    rw [List.any_cons, Bool.or_eq_false_iff, any4] at hb
    obtain ⟨a, b⟩ := good_t (fun d hd => h d (.tail _ hd)) hb.2
    have h1 := hb.1
    simp only [Bool.or_eq_false_iff, decide_eq_false_iff_not] at h1
    have hc := h c (.head _)
    have hc : c ≤ 255 := by omega
    refine ⟨?_, ?_⟩
    · unfold oct at a ⊢
      rw [List.all_cons, a, decide_eq_true hc]; rfl
    · rw [oc_cons, List.any_cons, b, never_nat hc, decide_eq_false h1.1, decide_eq_false h1.2.1, decide_eq_false h1.2.2.1]; rfl
theorem bad_t : ∀ {t : List Nat}, badT t = true → oct t = true → (oc t).any never = true
  | [], h, _ => by exact nft h
  | c :: t, h, ho => by
    obtain ⟨h1, h2⟩ := oct_cons ho
    unfold badT at h
    rw [List.any_cons, any4] at h
    rw [oc_cons, List.any_cons, never_nat h1]
    induction e : badT t using Bool.casesOn with
    | true => rw [bad_t e h2, Bool.or_true]
    | false =>
      unfold badT at e
      rw [e, Bool.or_false] at h
      rw [decide_eq_false (show ¬ c = 256 by omega), Bool.or_false] at h
      rw [h]; rfl
theorem mbxK_name {t : List Nat} (ht : t ≠ []) (ho : oct t = true) (hn : (oc t).any never = false) (i : Nat) (κ : KV) : mbxK t [112] i κ = κ (bB (phrB (oc t) ++ (32 :: 60 :: ([112] ++ 64 :: domB i)) ++ [62])) [] := by
  unfold mbxK
  skip
  show (if t = [] then _ else _) = _
  rw [if_neg ht, ho, orQ_ok hn]
  rfl
theorem mbxK_place {t : List Nat} (ho : oct t = true) (hn : (oc t).any never = false) (i : Nat) (κ : KV) : mbxK [] t i κ = κ (bB (locB (oc t) ++ 64 :: domB i)) [] := by
  unfold mbxK
  rw [ho, if_pos rfl, orQ_ok hn]
  show (if ([] : List Nat) = [] then _ else _) = _
  skip
  rfl
theorem mbxK_name_no {t : List Nat} (ht : t ≠ []) (hb : badT t = true) (i : Nat) (κ : KV) : mbxK t [112] i κ = .exc := by
  unfold mbxK
  skip
  show (if t = [] then _ else _) = _
  rw [if_neg ht]
  induction ho : oct t using Bool.casesOn with
  | false => rfl
  | true =>
    have hn := bad_t hb ho
    rw [if_pos rfl, (never_not hn).1, orQ_no hn]
theorem mbxK_place_no {t : List Nat} (hb : badT t = true) (i : Nat) (κ : KV) : mbxK [] t i κ = .exc := by
  unfold mbxK
  induction ho : oct t using Bool.casesOn with
  | false => rfl
  | true =>
    have hn := bad_t hb ho
    rw [if_pos rfl, (never_not hn).2, orQ_no hn]
theorem phrB_len (l : List UInt8) : (phrB l).length ≤ 2 * l.length + 2 := by
  have := escP_len [34, 92] l
  unfold phrB quoP
  split <;> simp <;> (first | exact chk [_] .z 1 (.v 0) (.a (.m 2 (.v 0)) (.n 2)) rfl | exact this)
theorem locB_len (l : List UInt8) : (locB l).length ≤ 2 * l.length + 2 := by
  have := escP_len [34, 92] l
  unfold locB quoP
  split <;> simp <;> (first | exact chk [_] .z 1 (.v 0) (.a (.m 2 (.v 0)) (.n 2)) rfl | exact this)

/- the answers of write_addresses that the law asks for -/
noncomputable abbrev dS (i : Nat) : Str := sS (domS i)
theorem tells_name (h372 : S372 pf) {t : List Nat} (hs : t.length ≤ 50) (ht : t ≠ []) (ho : oct t = true) (hn : (oc t).any never = false) (i : Nat) : Tells pf (bn_ (sS t) (dS i)) (phrB (oc t) ++ (32 :: 60 :: ([112] ++ 64 :: domB i)) ++ [62]) := fun κ => by
  have : 200 ≤ szB := by decide
  rw [h372 t [112] i κ (by exact chk [_,_] (.h 2 (.v 0) (.n 50) (.h 1 (.n 200) (.v 1) .z)) 1 (.m 2 (.v 0)) (.v 1) rfl hs this) (by simp; exact chk [_] (.h 1 (.n 200) (.v 0) .z) 1 (.n 2) (.v 0) rfl this), mbxK_name ht ho hn]
theorem tells_place (h372 : S372 pf) {t : List Nat} (hs : t.length ≤ 50) (ho : oct t = true) (hn : (oc t).any never = false) (i : Nat) : Tells pf (bp_ (sS t) (dS i)) (locB (oc t) ++ 64 :: domB i) := fun κ => by
  have : 200 ≤ szB := by decide
  rw [h372 [] t i κ (by simp) (by exact chk [_,_] (.h 2 (.v 0) (.n 50) (.h 1 (.n 200) (.v 1) .z)) 1 (.m 2 (.v 0)) (.v 1) rfl hs this), mbxK_place ho hn]
noncomputable def S377 (pf : PF) : Prop := ∀ (t : List Nat) (i : Nat) (κ : KV), t ≠ [] → t.length ≤ 50 → oct t = true → (oc t).any never = false → pf 377 [.lst [bn_ (sS t) (dS i), gone (sS t) (bp_ (sS t) (dS i))]] κ = κ (bB (outP (oc t) i)) []
theorem s377 (h372 : S372 pf) (h351 : S351 pf) : S377 (SXO lf pf mf).pf := fun t i κ ht hs ho hn => by
  have h0 : 1000 ≤ szB := by decide
  have l1 := phrB_len (oc t)
  have l2 := locB_len (oc t)
  have l3 := domB_len i
  have l4 := oc_len t
  have hy : ∀ κ, pf 351 [.str (sS t)] κ = κ (bB (phrB (oc t))) [] := fun κ => by
    rw [h351 t κ (by exact chk [_,_] (.h 2 (.v 0) (.n 50) (.h 1 (.n 1000) (.v 1) .z)) 1 (.m 2 (.v 0)) (.v 1) rfl hs h0), ho, orQ_ok hn]; rfl
  rw [w377 (tells_name h372 hs ht ho hn i) (tells_place h372 hs ho hn i) hy (by simp) (by simp; omega)]
  unfold grpO outP
  simp
noncomputable def No377 (pf : PF) (x : PV) : Prop := ∀ κ, pf 377 [.lst [nqd, x]] κ = .exc
noncomputable def S377n (pf : PF) : Prop := ∀ (t : List Nat) (i : Nat), t ≠ [] → t.length ≤ 50 → badT t = true → No377 pf (bn_ (sS t) (dS i)) ∧ No377 pf (bp_ (sS t) (dS i)) ∧ No377 pf (rw_ (sS t))
theorem s377n (h372 : S372 pf) (h351 : S351 pf) : S377n (SXO lf pf mf).pf := fun t i ht hs hb => by
  have h0 : 1000 ≤ szB := by decide
  have t1 : Tells pf nqd ([110] ++ (32 :: 60 :: ([113] ++ 64 :: domB 2)) ++ [62]) := fun κ => by
    have := h372 [110] [113] 2 κ (by simp; exact chk [_] (.h 1 (.n 1000) (.v 0) .z) 1 (.n 2) (.v 0) rfl h0) (by simp; exact chk [_] (.h 1 (.n 1000) (.v 0) .z) 1 (.n 2) (.v 0) rfl h0)
    exact this.trans rfl
  have t2 : Tells pf (mbs (sS []) (sS [112]) (sS [100])) ([112] ++ 64 :: domB 2) := fun κ => by
    have := h372 [] [112] 2 κ (by simp) (by simp; exact chk [_] (.h 1 (.n 1000) (.v 0) .z) 1 (.n 2) (.v 0) rfl h0)
    exact this.trans rfl
  refine ⟨fun κ => w377_mb t1 (fun κ => ?_) κ, fun κ => w377_mb t1 (fun κ => ?_) κ, fun κ => w377_gr t1 t2 (fun κ => ?_) (by show 3 + 10 ≤ szB; exact chk [_] (.h 1 (.n 1000) (.v 0) .z) 1 (.a (.n 3) (.n 10)) (.v 0) rfl h0) κ⟩
  · rw [h372 t [112] i κ (by exact chk [_,_] (.h 2 (.v 0) (.n 50) (.h 1 (.n 1000) (.v 1) .z)) 1 (.m 2 (.v 0)) (.v 1) rfl hs h0) (by simp; exact chk [_] (.h 1 (.n 1000) (.v 0) .z) 1 (.n 2) (.v 0) rfl h0), mbxK_name_no ht hb]
  · rw [h372 [] t i κ (by simp) (by exact chk [_,_] (.h 2 (.v 0) (.n 50) (.h 1 (.n 1000) (.v 1) .z)) 1 (.m 2 (.v 0)) (.v 1) rfl hs h0), mbxK_place_no hb]
  · rw [h351 t κ (by exact chk [_,_] (.h 2 (.v 0) (.n 50) (.h 1 (.n 1000) (.v 1) .z)) 1 (.m 2 (.v 0)) (.v 1) rfl hs h0)]
    induction ho : oct t using Bool.casesOn with
    | false => rfl
    | true =>
      have hn := bad_t hb ho
      rw [if_pos rfl, (never_not hn).1, orQ_no hn]
noncomputable def S427n (pf : PF) : Prop := ∀ (t : List Nat) (i : Nat) (κ : KV), t ≠ [] → t.length ≤ 50 → badT t = true → pf 427 [bn_ (sS t) (dS i)] κ = κ (.bool true) [] ∧ pf 427 [bp_ (sS t) (dS i)] κ = κ (.bool true) [] ∧ pf 427 [rw_ (sS t)] κ = κ (.bool true) []
theorem s427n (h : S377n pf) : S427n (SXO lf pf mf).pf := fun t i κ ht hs hb => by
  refine nn fun nG => ?_
  obtain ⟨a, b, c⟩ := h t i ht hs hb
  refine nG ?_
  exact ⟨s427 _ κ rfl a, s427 _ κ rfl b, s427 _ κ rfl c⟩
end Mine
end
section
set_option maxRecDepth 100000
namespace Mine
open PySem
variable {lf : Nat} {pf : PF} {mf : MF}

theorem okL_app {a b : List UInt8} (ha : okL a) (hb : okL b) : okL (a ++ b) := fun c hc => by
  rcases List.mem_append.mp hc with h | h
  · exact ha c h
  · exact hb c h
theorem okL_cons {x : UInt8} {b : List UInt8} (hx : never x = false) (hb : okL b) : okL (x :: b) := fun c hc => by
  rcases List.mem_cons.mp hc with rfl | h
  · exact hx
  · exact hb c h
theorem okL_nil : okL [] := fun c hc => nim hc
theorem okL_any {l : List UInt8} (h : l.any never = false) : okL l := fun c hc => by
  induction e : never c using Bool.casesOn with
  | false => rfl
  | true => rw [List.any_eq_false] at h; exact absurd e (h c hc)
theorem okL_esc {s : List UInt8} : ∀ {l : List UInt8}, okL l → okL (escP s l)
  | [], _ => okL_nil
  | x :: l, h => by
    have := okL_esc (s := s) fun c hc => h c (.tail _ hc)
    rw [escP_cons]
    refine okL_app ?_ this
    split
    · exact okL_cons rfl (okL_cons (h x (.head _)) okL_nil)
    · exact okL_cons (h x (.head _)) okL_nil
theorem okL_dom (i : Nat) : okL (domB i) := by
  unfold domB domS
  split <;> exact okL_any (by rfl)
theorem okL_quo {l : List UInt8} (h : okL l) : okL (quoP l) := okL_cons rfl (okL_app (okL_esc h) (okL_cons rfl okL_nil))
theorem okL_phr {l : List UInt8} (h : okL l) : okL (phrB l) := by
  unfold phrB; split
  · exact h
  · exact okL_quo h
theorem okL_loc {l : List UInt8} (h : okL l) : okL (locB l) := by
  unfold locB; split
  · exact h
  · exact okL_quo h
theorem okL_out {l : List UInt8} (h : okL l) (i : Nat) : okL (outP l i) :=
  okL_app (okL_phr h) (okL_cons rfl (okL_cons rfl (okL_cons rfl (okL_cons rfl (okL_app (okL_dom i) (okL_cons rfl (okL_cons rfl (okL_cons rfl (okL_app (okL_phr h) (okL_cons rfl (okL_cons rfl (okL_app (okL_loc h) (okL_cons rfl (okL_app (okL_dom i) (okL_cons rfl okL_nil)))))))))))))))
theorem out_len (l : List UInt8) (i : Nat) : (outP l i).length ≤ 6 * l.length + 40 := by
  have := phrB_len l
  have := locB_len l
  have := domB_len i
  unfold outP
  simp only [List.length_append, List.length_cons, List.length_nil]
  exact chk [_,_,_,_] (.h 2 (.v 0) (.a (.m 2 (.v 3)) (.n 2)) (.h 1 (.v 2) (.a (.m 2 (.v 3)) (.n 2)) (.h 2 (.v 1) (.n 5) .z))) 1 (.a (.v 0) (.a (.a (.a (.a (.a (.v 1) (.a (.a (.a (.a (.v 0) (.a (.a (.a (.v 2) (.a (.a (.v 1) (.a (.n 0) (.n 1))) (.n 1))) (.n 1)) (.n 1))) (.n 1)) (.n 1)) (.n 1))) (.n 1)) (.n 1)) (.n 1)) (.n 1))) (.a (.m 6 (.v 3)) (.n 40)) rfl (by assumption) (by assumption) this
theorem fm_bad (t : List Nat) : (t.filterMap fun c : Nat => if anyInt (c : Int) [0, 10, 13, 256] then some (PV.str ⟨#[c]⟩) else none).isEmpty = !badT t := by
  rw [fm_empty' (fun c : Nat => anyInt (c : Int) [0, 10, 13, 256]) (fun c => PV.str ⟨#[c]⟩)]
  unfold badT
  rw [List.any_eq_not_all_not, Bool.not_not]
theorem comp_oct {f : PV → List Cell → (Option PV → List Cell → Out) → Out} {σ : List Cell} (hf : ∀ (c : Nat) k', f (.str ⟨#[c]⟩) σ k' = k' (some (.int (c : Int))) σ) {t : List Nat} (ho : oct t = true) (k : PV → List Cell → Out) :
    compL (t.map fun c => .str ⟨#[c]⟩) f σ (fun ys σ => byts ys fun v => k v σ) = k (bB (oc t)) σ := by
  rw [compL_fm (g := fun c : Nat => some (.int (c : Int))) t fun c ζ k' => hf c k']
  have : t.filterMap (fun c : Nat => some (PV.int (c : Int))) = t.map fun c : Nat => .int (c : Int) := by simp
  rw [this, byts_ok ho]
theorem oct_dom (i : Nat) : oct (domS i) = true := by unfold domS; split <;> rfl
theorem lawO_spc {t : List Nat} (ho : oct t = true) : lawO 32 t = phrB (oc t) := by unfold lawO phrB; rw [bare_spc ho]
theorem lawO_dot {t : List Nat} (ho : oct t = true) : lawO 46 t = locB (oc t) := by unfold lawO locB; rw [bare_dot ho]
theorem ne_bytes (σ : List Cell) (a : List UInt8) : cmp σ .NotEq (bB a) (bB a) = some false := by
  show some (!decide (a.toArray = a.toArray)) = _
  rw [decide_eq_true rfl]; rfl
theorem ne_bytes' (σ : List Cell) {a b : List UInt8} (h : a = b) : cmp σ .NotEq (bB a) (bB b) = some false := by subst h; exact ne_bytes σ a
theorem cf_b (a : Nat) (C : Cell) (hC : noExc [C] = true) (w : Array UInt8) (k : KV) : cf (QX lf pf mf) [C] a [.bytes w] k = (xF pf) a [.bytes w] fun v fr => retK [C] v fr k := by
  induction C using Cell.casesOn with
  | exc => exact nft hC
  | list _ => rfl
  | inst _ _ _ => rfl
theorem cf_o (a : Nat) (c : Addr) (ns : List Str) (vs : List PV) (k : KV) : cf (QX lf pf mf) [.list []] a [.obj c ns vs] k = (xF pf) a [.obj c ns vs] fun v fr => retK [.list []] v fr k := rfl
theorem cf_ss (a : Nat) (s j : Str) (k : KV) : cf (QX lf pf mf) [.list []] a [.str s, .str j] k = (xF pf) a [.str s, .str j] fun v fr => retK [.list []] v fr k := rfl
theorem any46 (t : List Nat) (ho : oct t = true) : (t.any fun c => Nat.beq c 46) = false → (46 : UInt8) ∉ oc t := by
  intro h hm
  rw [List.any_eq_false] at h
  obtain ⟨c, hc, e⟩ := List.mem_map.mp hm
  have hc' : c ≤ 255 := by
    unfold oct at ho
    rw [List.all_eq_true] at ho
    simpa using ho c hc
  have := congrArg UInt8.toNat e
  simp at this
  have : c = 46 := by omega
  exact h c hc (by rw [this]; rfl)
noncomputable def S432 (pf : PF) : Prop := ∀ (t : List Nat) (i : Nat) (κ : KV), Sml t → pf 432 [.str (sS t), .str (dS i)] κ = κ (.bool true) []
theorem cat_len {a b : List UInt8} {n m : Nat} (ha : a.length ≤ n) (hb : b.length ≤ m) : (a ++ b).length ≤ n + m := by
  rw [List.length_append]; exact Nat.add_le_add ha hb
theorem lim_of {a b : List UInt8} {n m : Nat} (ha : a.length ≤ n) (hb : b.length ≤ m) (h : n + m ≤ LIM) : a.length + b.length ≤ LIM := Nat.le_trans (Nat.add_le_add ha hb) h
theorem len2p {a b : List UInt8} (ha : a.length ≤ 50) (hb : b.length ≤ 2 * a.length + 2) : b.length ≤ 102 := Nat.le_trans hb (Nat.add_le_add_right (Nat.mul_le_mul_left 2 ha) 2)
theorem s432 (h427 : S427n pf) (h415 : S415 pf) (h372 : S372 pf) (h377 : S377 pf) (h420 : S420 pf) (h408 : S408 pf) : S432 (SXO lf pf mf).pf := fun t i κ hs => by
  refine nn fun nG => ?_
  obtain ⟨ht, hl, hm⟩ := hs
  refine nG ?_
  have h0 : 10000 ≤ szB := by decide
  have hlim := lim_big
  rw [eq432, a432]
  show compL (t.map fun c => .str ⟨#[c]⟩) _ _ _ = _
  rw [compL_fm (g := fun c : Nat => if anyInt (c : Int) [0, 10, 13, 256] then some (.str ⟨#[c]⟩) else none) t fun c ζ k' => ?_]
  · rw [ne_nil, opt_s, fm_bad, Bool.not_not]
    rw [show ([] : List Cell) ++ [Cell.list []] = [Cell.list []] from rfl]
    induction hb : badT t using Bool.casesOn with
    | true =>
      obtain ⟨a, b, c⟩ : (∀ κ, pf 427 [bn_ (sS t) (dS i)] κ = κ (.bool true) []) ∧ (∀ κ, pf 427 [bp_ (sS t) (dS i)] κ = κ (.bool true) []) ∧ (∀ κ, pf 427 [rw_ (sS t)] κ = κ (.bool true) []) := ⟨fun κ => (h427 t i κ ht hl hb).1, fun κ => (h427 t i κ ht hl hb).2.1, fun κ => (h427 t i κ ht hl hb).2.2⟩
      rw [br_t, r432, a]
      unfold cf
      show pf 427 [bp_ (sS t) (dS i)] _ = _
      rw [b]
      show pf 427 [rw_ (sS t)] _ = _
      rw [c]; rfl
    | false =>
      obtain ⟨ho, hn⟩ := good_t hm hb
      have ok := okL_any hn
      have lo := oc_len t
      have T : (oc t).length ≤ 50 := lo ▸ hl
      have HT2 : 2 * t.length ≤ szB := Nat.le_trans (Nat.mul_le_mul_left 2 hl) (by decide)
      have HT : t.length ≤ szB := Nat.le_trans hl (by decide)
      have P : (phrB (oc t)).length ≤ 102 := len2p T (phrB_len (oc t))
      have Lc : (locB (oc t)).length ≤ 102 := len2p T (locB_len (oc t))
      have D := domB_len i
      have Lc1 := cat_len Lc (Nat.le_refl ([64] : List UInt8).length)
      have Lc2 := cat_len Lc1 D
      have T1 := cat_len T (Nat.le_refl ([64] : List UInt8).length)
      have K1 := cat_len P (Nat.le_refl ([32, 60, 112, 64] : List UInt8).length)
      have K2 := cat_len K1 D
      have K3 := cat_len K2 (Nat.le_refl ([62, 44, 32] : List UInt8).length)
      have K4 := cat_len K3 P
      have K5 := cat_len K4 (Nat.le_refl ([58, 32] : List UInt8).length)
      have l4 : (outP (oc t) i).length ≤ 340 := Nat.le_trans (out_len (oc t) i) (Nat.add_le_add_right (Nat.mul_le_mul_left 6 T) 40)
      rw [d432]
      show compL ((domS i).map fun c => .str ⟨#[c]⟩) _ _ (fun ys σ => byts ys fun v => pW (QX lf pf mf) (stAt 51) 5 κ (mm (sS t) (dS i) (some (tpl (sS []) (sS t) (dS i))) (some (tpl (sS t) (sS [112]) (dS i))) (some v) none none none none) σ) = _
      rw [comp_oct (fun c k' => e432 c _ k') (oct_dom i)]
      show pW _ _ _ _ (mm _ _ _ _ (some (.bytes (domB i).toArray)) _ _ _ _) _ = _
      rw [f432, h415 t 32 _ ho HT2]
      show pf 415 [.str (sS t), .str (one 46)] _ = _
      rw [h415 t 46 _ ho HT2, rK, lawO_spc ho, lawO_dot ho, add_b _ _ (lim_of Lc (Nat.le_refl 1) (by decide))]
      show binop .Add (bB _) (bB (domB i)) _ = _
      rw [add_b _ _ (lim_of Lc1 D (by decide))]
      show pW _ _ _ _ (mm _ _ _ _ (some (.bytes (domB i).toArray)) (some (.bytes (phrB (oc t)).toArray)) (some (.bytes (locB (oc t) ++ [64] ++ domB i).toArray)) _ _) _ = _
      rw [g432, tells_name h372 hl ht ho hn i, rK]
      show binop .Add (bB _) (bB _) _ = _
      rw [add_b _ _ (lim_of P (Nat.le_refl 4) (by decide))]
      show binop .Add (bB _) (bB (domB i)) _ = _
      rw [add_b _ _ (lim_of K1 D (by decide)), add_b _ _ (lim_of K2 (Nat.le_refl 1) (by decide)), ne_bytes' _ (by simp)]
      show pf 372 [bp_ (sS t) (dS i)] _ = _
      rw [tells_place h372 hl ho hn i, rK]
      show opt (cmp _ .NotEq (bB _) (bB _)) _ = _
      rw [ne_bytes' _ (by simp), opt_s, h432, h377 t i _ ht hl ho hn]
      show pW _ _ _ _ (mm _ _ _ _ _ _ _ (some (.bytes (outP (oc t) i).toArray)) _) _ = _
      rw [i432]
      show binop .Add (bB _) (bB _) _ = _
      rw [add_b _ _ (lim_of P (Nat.le_refl 4) (by decide))]
      show binop .Add (bB _) (bB (domB i)) _ = _
      rw [add_b _ _ (lim_of K1 D (by decide)), add_b _ _ (lim_of K2 (Nat.le_refl 3) (by decide))]
      show binop .Add (bB _) (bB (phrB (oc t))) _ = _
      rw [add_b _ _ (lim_of K3 P (by decide)), add_b _ _ (lim_of K4 (Nat.le_refl 2) (by decide))]
      show binop .Add (bB _) (bB (locB (oc t) ++ [64] ++ domB i)) _ = _
      rw [add_b _ _ (lim_of K5 Lc2 (by decide)), add_b _ _ (lim_of (cat_len K5 Lc2) (Nat.le_refl _) (by decide))]
      show opt (cmp _ .NotEq (bB _) (bB _)) _ = _
      rw [ne_bytes' _ (by unfold outP; simp), opt_s, br_f, j432]
      have q420 := fun L κ h1 h2 => h420 L κ h1 h2
      unfold bB at q420
      rw [q420 _ _ (okL_out ok i) (Nat.le_trans (Nat.mul_le_mul_left 4 l4) (by decide)), read_out]
      dsimp only
      have eB := told_both [.list []] ⟨oc t, [112], domB i⟩ ⟨[], oc t, domB i⟩ (oc t)
      have e1 : toldM ⟨oc t, [112], domB i⟩ = tpl (sS t) (sS [112]) (dS i) := by
        show PV.tup [_, .str (tx (oc t)), .str (tx (oc [112])), .str (tx (oc (domS i)))] = _
        rw [tx_oc ho, tx_oc rfl, tx_oc (oct_dom i)]
      have e2 : toldM ⟨[], oc t, domB i⟩ = tpl (sS []) (sS t) (dS i) := by
        show PV.tup [_, .str (tx (oc [])), .str (tx (oc t)), .str (tx (oc (domS i)))] = _
        rw [tx_oc ho, tx_oc rfl, tx_oc (oct_dom i)]
      rw [e1, e2, tx_oc ho] at eB
      rw [rK, eB, opt_s, br_f, k432]
      show compL (t.map fun c => .str ⟨#[c]⟩) _ _ (fun ys σ => byts ys fun v => pW (QX lf pf mf) (stAt 51) 11 κ (mm (sS t) (dS i) (some (tpl (sS []) (sS t) (dS i))) (some (tpl (sS t) (sS [112]) (dS i))) _ _ _ _ (some v)) σ) = _
      rw [comp_oct (fun c k' => l432 c _ k') ho]
      show pW _ _ _ _ (mm _ _ _ _ _ _ _ _ (some (.bytes (oc t).toArray))) _ = _
      rw [n432]
      show binop .Add (bB _) (bB _) _ = _
      rw [add_b _ _ (lim_of T (Nat.le_refl 1) (by decide))]
      show binop .Add (bB _) (bB (domB i)) _ = _
      rw [add_b _ _ (lim_of T1 D (by decide))]
      have q420a := fun κ => h420 (oc t ++ [64] ++ domB i) κ (okL_app (okL_app ok (okL_cons rfl okL_nil)) (okL_dom i)) (Nat.le_trans (Nat.mul_le_mul_left 4 (cat_len T1 D)) (by decide))
      have q420b := fun κ => h420 (oc t ++ [32, 60, 112, 64] ++ domB i ++ [62]) κ (okL_app (okL_app (okL_app ok (okL_any (by rfl))) (okL_dom i)) (okL_any (by rfl))) (Nat.le_trans (Nat.mul_le_mul_left 4 (cat_len (cat_len (cat_len T (Nat.le_refl 4)) D) (Nat.le_refl 1))) (by decide))
      have f1 : oc t ++ [64] ++ domB i = oc t ++ 64 :: domB i := by simp
      have f2 : oc t ++ [32, 60, 112, 64] ++ domB i ++ [62] = oc t ++ 32 :: 60 :: 112 :: 64 :: (domB i ++ [62]) := by simp
      rw [f1] at q420a
      rw [f2] at q420b
      unfold bB at q420a q420b
      rw [f1]
      show cf (QX lf pf mf) [.list []] 420 [.bytes (oc t ++ 64 :: domB i).toArray] _ = _
      rw [cf_b 420 _ (by rfl)]
      show pf 420 [.bytes (oc t ++ 64 :: domB i).toArray] _ = _
      rw [q420a, ← e2]
      refine (heard_cmp [.list []] (oc t ++ 64 :: domB i) ⟨[], oc t, domB i⟩ (κ := fun x => retK [.list []] x [] _) (fun x => rfl)).trans ?_
      rw [heard_place, cf_ss]
      show pf 408 [.str (sS t), .str (one 46)] _ = _
      rw [h408 t 46 _ HT, rK, bare_dot ho]
      show opt (some (!(dotP (oc t) == dotP (oc t)))) _ = _
      rw [opt_s, beq_self_eq_true, Bool.not_true, br_f, e2, o432]
      show br (t.any fun c => Nat.beq c 46) _ _ = _
      induction h46 : t.any fun c => Nat.beq c 46 using Bool.casesOn with
      | true => rfl
      | false =>
        rw [br_f]
        show binop .Add (bB _) (bB _) _ = _
        rw [add_b _ _ (lim_of T (Nat.le_refl 4) (by decide))]
        show binop .Add (bB _) (bB (domB i)) _ = _
        rw [add_b _ _ (lim_of (cat_len T (Nat.le_refl 4)) D (by decide)), add_b _ _ (lim_of (cat_len (cat_len T (Nat.le_refl 4)) D) (Nat.le_refl 1) (by decide)), f2]
        show cf (QX lf pf mf) [.list []] 420 [.bytes (oc t ++ 32 :: 60 :: 112 :: 64 :: (domB i ++ [62])).toArray] _ = _
        rw [cf_b 420 _ (by rfl)]
        show pf 420 [.bytes (oc t ++ 32 :: 60 :: 112 :: 64 :: (domB i ++ [62])).toArray] _ = _
        rw [q420b, ← e1]
        refine (heard_cmp [.list []] (oc t ++ 32 :: 60 :: 112 :: 64 :: (domB i ++ [62])) ⟨oc t, [112], domB i⟩ (κ := fun x => retK [.list []] x [] _) (fun x => rfl)).trans ?_
        rw [heard_name (fun e => ht (by simpa [oc] using e)) (any46 t ho h46), cf_ss]
        show pf 408 [.str (sS t), .str (one 32)] _ = _
        rw [h408 t 32 _ HT, rK, bare_spc ho]
        show opt (some (spcP (oc t) == spcP (oc t))) _ = _
        rw [opt_s, beq_self_eq_true]
  · rw [c432]
    cases anyInt (c : Int) [0, 10, 13, 256] <;> rfl
end Mine
end
section
set_option maxRecDepth 100000
namespace Mine
open PySem
theorem lfB : szB < LF := by decide
theorem lv62 (n : Nat) : S62 (O (n + 2)).pf := by rw [O_s]; exact s62
theorem lv69 (n : Nat) : S69 (O (n + 2)).pf := by rw [O_s]; exact s69
theorem lv76 (n : Nat) : S76 (O (n + 3)).pf := by rw [O_s (n + 1)]; exact s76 (lv69 n)
theorem lv83 (n : Nat) : S83 (O (n + 4)).pf := by rw [O_s (n + 2)]; exact s83 lfB (lv76 n)
theorem lv90 (n : Nat) : S90 (O (n + 4)).pf := by rw [O_s (n + 2)]; exact s90 lfB (lv76 n)
theorem lv97 (n : Nat) : S97 (O (n + 3)).pf := by rw [O_s (n + 1)]; exact s97 lfB (lv62 n)
theorem lv104 (n : Nat) : S104 (O (n + 5)).pf := by rw [O_s (n + 3)]; exact s104 (lv83 n) (lv90 n) (lv62 (n + 2)) (lv97 (n + 1))
theorem lv111 (n : Nat) : S111 (O (n + 3)).pf := by rw [O_s (n + 1)]; exact s111 lfB (lv69 n)
theorem lv118 (n : Nat) : S118 (O (n + 6)).pf := by rw [O_s (n + 4)]; exact s118 lfB (lv104 n) (lv111 (n + 2))
theorem lv123 (n : Nat) : S123 (O (n + 2)).pf := by rw [O_s]; exact s123
theorem lv130 (n : Nat) : S130 (O (n + 3)).pf := by rw [O_s (n + 1)]; exact s130 (lv123 n)
theorem lv137 (n : Nat) : S137 (O (n + 2)).pf := by rw [O_s]; exact s137
theorem lv144 (n : Nat) : S144 (O (n + 3)).pf := by rw [O_s (n + 1)]; exact s144 (lv137 n)
theorem lv151 (n : Nat) : S151 (O (n + 4)).pf := by rw [O_s (n + 2)]; exact s151 (lv97 n)
theorem lv210 (n : Nat) : S210 (O (n + 2)).pf := by rw [O_s]; exact s210
theorem lv215 (n : Nat) : S215 (O (n + 2)).pf := by rw [O_s]; exact s215
theorem lv346 (n : Nat) : S346 (O (n + 5)).pf := by rw [O_s (n + 3)]; exact s346 (lv151 n)
theorem lv351 (n : Nat) : S351 (O (n + 5)).pf := by rw [O_s (n + 3)]; exact s351 (lv215 (n + 2)) (lv151 n) (lv144 (n + 1))
theorem lv358 (n : Nat) : S358 (O (n + 6)).pf := by rw [O_s (n + 4)]; exact s358 (lv215 (n + 3)) (lv346 n) (lv144 (n + 2))
theorem lv365 (n : Nat) : S365 (O (n + 6)).pf := by rw [O_s (n + 4)]; exact s365 (lv215 (n + 3)) (lv346 n) (lv137 (n + 3))
theorem lv372 (n : Nat) : S372 (O (n + 7)).pf := by rw [O_s (n + 5)]; exact s372 (lv358 n) (lv365 n) (lv351 (n + 1))
theorem lv408 (n : Nat) : S408 (O (n + 2)).pf := by rw [O_s]; exact s408
theorem lv415 (n : Nat) : S415 (O (n + 3)).pf := by rw [O_s (n + 1)]; exact s415 (lv408 n)
theorem lv172 (n : Nat) : S172 (O (n + 2)).pf := by rw [O_s]; exact s172
theorem lv198 (n : Nat) : S198 (O (n + 3)).pf := by rw [O_s (n + 1)]; exact s198 (lv172 n)
theorem lv236 (n : Nat) : M236 (O (n + 2)).mf := by rw [O_s]; exact m236
theorem lv243 (n : Nat) : M243 (O (n + 3)).mf := by rw [O_s (n + 1)]; exact m243 (lv236 n)
theorem lv250 (n : Nat) : M250 (O (n + 4)).mf := by rw [O_s (n + 2)]; exact m250 (lv243 n)
theorem lv257 (n : Nat) : M257 (O (n + 2)).mf := by rw [O_s]; exact m257
theorem lv264 (n : Nat) : M264 (O (n + 5)).mf := by rw [O_s (n + 3)]; exact m264 (lv250 n)
theorem lv271 (n : Nat) : M271 (O (n + 3)).mf := by rw [O_s (n + 1)]; exact m271 (lv236 n)
theorem lv278 (n : Nat) : M278 (O (n + 6)).mf := by rw [O_s (n + 4)]; exact m278 (lv264 n) (lv271 (n + 2)) (lv210 (n + 3))
theorem lv285 (n : Nat) : M285 (O (n + 5)).mf := by rw [O_s (n + 3)]; exact m285 lfB (lv236 (n + 2)) (lv243 (n + 1)) (lv250 n) (lv257 (n + 2))
theorem lv299 (n : Nat) : M299 (O (n + 4)).mf := by rw [O_s (n + 2)]; exact m299_ok (lv271 n) (lv210 (n + 1))
theorem lv306 (n : Nat) : M306 (O (n + 6)).mf := by rw [O_s (n + 4)]; exact m306 lfB (lv243 (n + 2)) (lv257 (n + 3)) (lv264 n) (lv271 (n + 2)) (lv210 (n + 3))
theorem lv313 (n : Nat) : M313 (O (n + 7)).mf := by rw [O_s (n + 5)]; exact m313_ok lfB (lv250 (n + 2)) (lv264 (n + 1)) (lv278 n) (lv306 n)
theorem lv320 (n : Nat) : M320 (O (n + 8)).mf := by rw [O_s (n + 6)]; exact m320_ok (lv130 (n + 4)) (lv210 (n + 5)) (lv264 (n + 2)) (lv278 (n + 1)) (lv285 (n + 2)) (lv299 (n + 3)) (lv306 (n + 1)) (lv313 n)
theorem lv327i (n : Nat) : M327 true placeIn encM (O (n + 9)).mf := by rw [O_s (n + 7)]; exact m327_in (lv130 (n + 5)) (lv210 (n + 6)) (lv250 (n + 4)) (lv271 (n + 5)) (lv285 (n + 3)) (lv320 n)
theorem lv334i (n : Nat) : M334 true placeIn encM (O (n + 10)).mf := by rw [O_s (n + 8)]; exact m334_ok lfB short_in enc_obj (lv236 (n + 7)) (lv250 (n + 5)) (lv264 (n + 4)) (lv271 (n + 6)) (lv327i n)
theorem lv327o (n : Nat) : M327 false placeOut encI (O (n + 11)).mf := by rw [O_s (n + 9)]; exact m327_out (lv130 (n + 7)) (lv210 (n + 8)) (lv250 (n + 6)) (lv271 (n + 7)) (lv278 (n + 4)) (lv285 (n + 5)) (lv320 (n + 2)) (lv334i n)
theorem lv334o (n : Nat) : M334 false placeOut encI (O (n + 12)).mf := by rw [O_s (n + 10)]; exact m334_ok lfB short_out encI_obj (lv236 (n + 9)) (lv250 (n + 7)) (lv264 (n + 6)) (lv271 (n + 8)) (lv327o n)
theorem lv341 (n : Nat) : S341 (O (n + 13)).pf := by rw [O_s (n + 11)]; exact s341 (lv118 (n + 6)) (lv123 (n + 10)) (lv236 (n + 10)) (lv271 (n + 9)) (lv334o n)
theorem lv420 (n : Nat) : S420 (O (n + 14)).pf := by rw [O_s (n + 12)]; exact s420 (lv172 (n + 11)) (lv198 (n + 10)) (lv341 n)
theorem lv377 (n : Nat) : S377 (O (n + 8)).pf := by rw [O_s (n + 6)]; exact s377 (lv372 n) (lv351 (n + 2))
theorem lv377n (n : Nat) : S377n (O (n + 8)).pf := by rw [O_s (n + 6)]; exact s377n (lv372 n) (lv351 (n + 2))
theorem lv427n (n : Nat) : S427n (O (n + 9)).pf := by rw [O_s (n + 7)]; exact s427n (lv377n n)
theorem lv432 (n : Nat) : S432 (O (n + 15)).pf := by rw [O_s (n + 13)]; exact s432 (lv427n (n + 5)) (lv415 (n + 11)) (lv372 (n + 7)) (lv377 (n + 6)) (lv420 n) (lv408 (n + 12))
end Mine
end
section
set_option maxRecDepth 100000
namespace Mine
open PySem
variable {lf : Nat} {pf : PF} {mf : MF}

/- the law's own top: the tape is a list that changes -/
noncomputable abbrev tpC (d s c : Int) : Cell := .list [.int d, .int s, .int c]
noncomputable def mulC (x y : Int) : Bool := decide (x.natAbs < 18446744073709551616 ∨ y.natAbs < 18446744073709551616)
theorem mulC_r (x y : Int) (h : y.natAbs < 18446744073709551616) : mulC x y = true := decide_eq_true (.inr h)
theorem mulC_l (x y : Int) (h : x.natAbs < 18446744073709551616) : mulC x y = true := decide_eq_true (.inl h)
noncomputable def absI (i : Int) : Int := if i < 0 then -i else i
noncomputable abbrev pP : Int := 1000000007

/- 384 _law_tape -/
noncomputable def kT (k : KV) : KV := fun v σ => frzT v σ k
noncomputable def pT (Q : Orc) (st : Stmt) (j : Nat) (k : KV) (m : Loc) (σ : List Cell) : Out := execS Q (fNames st) (60 - j) ((fBody st).drop j) m σ (fun ζ ζ => k .none []) (fun ζ ζ => .stuck) (kT k)
noncomputable abbrev m384 (l : PV) (d s : Int) (x : Option PV) : Loc := [some l, some (.int d), some (.int s), x, none, none]
theorem eq384 (l : List PV) (k : KV) : (SXO lf pf mf).pf 384 [.lst l] k = forL (lSlice l none (some 40)) (bF (QX lf pf mf) (kT k) (stAt 43) 1) (m384 (.lst l) 0 0 none) [] (pT (QX lf pf mf) (stAt 43) 2 k) := by kernel_rfl
theorem b384 (l : PV) (d s c : Int) (x : Option PV) (κ : KV) (k : KS) : bF (QX lf pf mf) (kT κ) (stAt 43) 1 (.int c) (m384 l d s x) [] k = br (mulC d 4099) (br (mulC s 523) (k (m384 l (d * 4099 + absI c) ((s * 523 + c).fmod pP) (some (.int c))) []) .stuck) .stuck := by kernel_rfl
theorem p384 (l : PV) (d s : Int) (x : Option PV) (k : KV) : pT (QX lf pf mf) (stAt 43) 2 k (m384 l d s x) [] = k (.cell 0) [tpC d s 0] := by kernel_rfl
noncomputable def S384 (pf : PF) : Prop := ∀ l : List Int, ∃ d s : Int, 0 ≤ d ∧ 0 ≤ s ∧ s < pP ∧ ∀ κ, pf 384 [.lst (l.map .int)] κ = κ (.cell 0) [tpC d s 0]
theorem lp384 (v : PV) : ∀ (l : List Int) (d s : Int), 0 ≤ d → 0 ≤ s → s < pP → ∃ d' s' : Int, 0 ≤ d' ∧ 0 ≤ s' ∧ s' < pP ∧ ∀ (κ : KV) (x : Option PV),
    forL (l.map .int) (bF (QX lf pf mf) (kT κ) (stAt 43) 1) (m384 v d s x) [] (pT (QX lf pf mf) (stAt 43) 2 κ) = κ (.cell 0) [tpC d' s' 0]
  | [], d, s, h1, h2, h3 => ⟨d, s, h1, h2, h3, fun κ x => p384 _ _ _ _ _⟩
  | c :: l, d, s, h1, h2, h3 => by
    have ha : 0 ≤ absI c := by unfold absI; split <;> omega
    refine nn fun nG => ?_
    obtain ⟨d', s', a, b, e, h⟩ := lp384 v l (d * 4099 + absI c) ((s * 523 + c).fmod pP) (by omega) (Int.fmod_nonneg_of_pos _ (by decide)) (Int.fmod_lt_of_pos _ (by decide))
    refine nG ?_
    refine ⟨d', s', a, b, e, fun κ x => ?_⟩
    rw [List.map_cons, forL, b384, mulC_r _ _ (by decide), mulC_r _ _ (by decide)]
    exact h κ _
theorem s384 : S384 (SXO lf pf mf).pf := fun l => by
  have e : lSlice (l.map PV.int) none (some 40) = (lSlice l none (some 40)).map .int := by
    unfold lSlice
    simp
  refine nn fun nG => ?_
  obtain ⟨d, s, a, b, c, h⟩ := lp384 (lf := lf) (pf := pf) (mf := mf) (.lst (l.map .int)) (lSlice l none (some 40)) 0 0 (by decide) (by decide) (by decide)
  refine nG ?_
  refine ⟨d, s, a, b, c, fun κ => ?_⟩
  rw [eq384, e]
  exact h κ none

/- 391 _law_draw -/
noncomputable def powC (x y : Int) : Bool := decide (0 ≤ y ∧ y ≤ 100 ∧ x.natAbs < 18446744073709551616)
theorem eq391 (d s c m : Int) (κ : PV → Cell → List Cell → Out) : (SXO lf pf mf).mf 391 (tpC d s c) [.int m] κ =
  (let fin := fun d c : Int => br (decide (0 < m)) (br (decide (0 < m ∧ m < 1000000)) (κ (.int (d.fmod m)) (tpC (d.fdiv m) s c) []) .stuck) .stuck
   br (decide (d = 0)) (br (mulC 30011 (c + 1)) (br (powC (s + 30011 * (c + 1)) 3) (fin (((s + 30011 * (c + 1)) ^ (3 : Int).toNat).fmod pP) (c + 1)) .stuck) .stuck) (fin d c)) := by kernel_rfl
noncomputable def M391 (mf : MF) : Prop := ∀ d s c m : Int, 0 ≤ d → 0 ≤ s → s < pP → 0 ≤ c → c < 1000 → 0 < m → m < 1000 → ∃ v d' c' : Int, 0 ≤ v ∧ v < m ∧ 0 ≤ d' ∧ 0 ≤ c' ∧ c' ≤ c + 1 ∧ ∀ κ, mf 391 (tpC d s c) [.int m] κ = κ (.int v) (tpC d' s c') []
theorem m391 : M391 (SXO lf pf mf).mf := fun d s c m hd hs hs2 hc hc2 hm hm2 => by
  have fin : ∀ d0 : Int, 0 ≤ d0 → 0 ≤ d0.fmod m ∧ d0.fmod m < m ∧ 0 ≤ d0.fdiv m := fun d0 h => ⟨Int.fmod_nonneg_of_pos _ hm, Int.fmod_lt_of_pos _ hm, Int.fdiv_nonneg h (by omega)⟩
  by_cases h : d = 0
  · have h0 : 0 ≤ ((s + 30011 * (c + 1)) ^ (3 : Int).toNat).fmod pP := Int.fmod_nonneg_of_pos _ (by decide)
    obtain ⟨a, b, e⟩ := fin _ h0
    refine ⟨_, _, c + 1, a, b, e, by omega, by omega, fun κ => ?_⟩
    rw [eq391, decide_eq_true h, br_t, mulC_l _ _ (by decide), br_t, show powC (s + 30011 * (c + 1)) 3 = true from decide_eq_true ⟨by decide, by decide, by unfold pP at hs2; omega⟩, br_t]
    dsimp only
    rw [decide_eq_true hm, br_t, decide_eq_true ⟨hm, by omega⟩, br_t]
  · refine nn fun nG => ?_
    obtain ⟨a, b, e⟩ := fin d hd
    refine nG ?_
    refine ⟨_, _, c, a, b, e, hc, by omega, fun κ => ?_⟩
    rw [eq391, decide_eq_false h, br_f]
    dsimp only
    rw [decide_eq_true hm, br_t, decide_eq_true ⟨hm, by omega⟩, br_t]

/- 398 _law_sign -/
theorem eq398 (vs : List PV) (κ : PV → Cell → List Cell → Out) : (SXO lf pf mf).mf 398 (.list vs) [] κ = mf 391 (.list vs) [.int 131] fun v c fr => retK [c] v fr fun v σ => pM (QX lf pf mf) (stAt 45) 1 κ [some (.cell 0), some v, none, none] σ := by kernel_rfl
theorem p398 (vs : List PV) (v : Int) (κ : PV → Cell → List Cell → Out) : pM (QX lf pf mf) (stAt 45) 1 κ [some (.cell 0), some (.int v), none, none] [.list vs] =
  br (decide (v < 128)) (br (okCode v) (κ (.str (one v.toNat)) (.list vs) []) .stuck) (opt (lIdx [.int 233, .int 255, .int 256] (v - 128)) fun w => callB [.list vs] "chr" [w] fun v => kM κ v [.list vs]) := by kernel_rfl
noncomputable def M398 (mf : MF) : Prop := ∀ d s c : Int, 0 ≤ d → 0 ≤ s → s < pP → 0 ≤ c → c < 900 → ∃ (n : Nat) (d' c' : Int), n ≤ 256 ∧ 0 ≤ d' ∧ 0 ≤ c' ∧ c' ≤ c + 1 ∧ ∀ κ, mf 398 (tpC d s c) [] κ = κ (.str (one n)) (tpC d' s c') []
theorem m398 (h391 : M391 mf) : M398 (SXO lf pf mf).mf := fun d s c hd hs hs2 hc hc2 => by
  refine nn fun nG => ?_
  obtain ⟨v, d', c', a1, a2, a3, a4, a5, h⟩ := h391 d s c 131 hd hs hs2 hc (by omega) (by decide) (by decide)
  refine nG ?_
  by_cases hv : v < 128
  · refine ⟨v.toNat, d', c', by omega, a3, a4, a5, fun κ => ?_⟩
    rw [eq398, h, rK, p398, decide_eq_true hv, br_t, show okCode v = true by unfold okCode; rw [decide_eq_true (by omega), decide_eq_true (by omega)]; rfl, br_t]
  · have hv3 : v = 128 ∨ v = 129 ∨ v = 130 := by omega
    rcases hv3 with rfl | rfl | rfl
    · exact ⟨233, d', c', by decide, a3, a4, a5, fun κ => by rw [eq398, h]; rfl⟩
    · exact ⟨255, d', c', by decide, a3, a4, a5, fun κ => by rw [eq398, h]; rfl⟩
    · exact ⟨256, d', c', by decide, a3, a4, a5, fun κ => by rw [eq398, h]; rfl⟩

/- 403 _law_texts -/
noncomputable def pcs : List (List Nat) := [[97], [90, 113, 57], [120, 46, 121], [98, 32, 99], [61, 63, 113, 63, 61], [39, 116]]
noncomputable abbrev pcP : PV := .tup (pcs.map fun t => .str (sS t))
noncomputable abbrev m403 (a b c d : Option PV) : Loc := [some (.cell 0), a, b, c, d, none]
theorem eq403 (vs : List PV) (κ : PV → Cell → List Cell → Out) : (SXO lf pf mf).mf 403 (.list vs) [] κ = mf 398 (.list vs) [] fun v c fr => retK [c] v fr fun v σ => cf (QX lf pf mf) σ 398 [.cell 0] fun w σ => br (noCells [v, w]) (pM (QX lf pf mf) (stAt 46) 1 κ (m403 (some v) (some w) none none) σ) .stuck := by kernel_rfl
theorem a403 (vs : List PV) (a b : Str) (κ : PV → Cell → List Cell → Out) : pM (QX lf pf mf) (stAt 46) 1 κ (m403 (some (.str a)) (some (.str b)) none none) [.list vs] =
  noX (cf (QX lf pf mf) [.list vs] 391 [.cell 0, .int 6] fun v σ => sub σ pcP v fun y => noCell y (cf (QX lf pf mf) σ 391 [.cell 0, .int 6] fun v σ => sub σ pcP v fun y2 => noCell y2 (pM (QX lf pf mf) (stAt 46) 2 κ (m403 (some (.str a)) (some (.str b)) (some y) (some y2)) σ))) := by kernel_rfl
theorem b403 (vs : List PV) (sg ot lf_ rt : Str) (κ : PV → Cell → List Cell → Out) : pM (QX lf pf mf) (stAt 46) 2 κ (m403 (some (.str sg)) (some (.str ot)) (some (.str lf_)) (some (.str rt))) [.list vs] =
  binop .Add (.str sg) (.str lf_) fun e2 => binop .Add (.str lf_) (.str sg) fun t => binop .Add t (.str rt) fun e3 => binop .Add (.str lf_) (.str sg) fun e4 => binop .Add (.str sg) (.str lf_) fun t => binop .Add t (.str ot) fun e5 => br (noCells [.str sg, e2, e3, e4, e5]) (κ (.lst [.str sg, e2, e3, e4, e5]) (.list vs) []) .stuck := by kernel_rfl
theorem cf398 (vs : List PV) (k : KV) : cf (QX lf pf mf) [.list vs] 398 [.cell 0] k = mf 398 (.list vs) [] fun v c fr => retK [c] v fr k := by kernel_rfl
theorem cf391 (vs : List PV) (m : Int) (k : KV) : cf (QX lf pf mf) [.list vs] 391 [.cell 0, .int m] k = mf 391 (.list vs) [.int m] fun v c fr => retK [c] v fr k := by kernel_rfl
end Mine
end
section
set_option maxRecDepth 100000
namespace Mine
open PySem
variable {lf : Nat} {pf : PF} {mf : MF}

theorem sS_app (a b : List Nat) : sS a ++ sS b = sS (a ++ b) := by
  show (⟨a.toArray ++ b.toArray⟩ : Str) = ⟨(a ++ b).toArray⟩
  congr 1
  simp
theorem add_s (a b : List Nat) (h1 : a.length ≤ 100) (h2 : b.length ≤ 100) (k : PV → Out) : binop .Add (.str (sS a)) (.str (sS b)) k = k (.str (sS (a ++ b))) := by
  show br (decide ((sS a).length + (sS b).length ≤ LIM)) (k (.str (sS a ++ sS b))) .stuck = _
  have e : ∀ t : List Nat, (sS t).length = t.length := fun t => by show t.toArray.size = _; simp
  have hl : 200 ≤ LIM := by decide
  rw [decide_eq_true (by skip; exact chk [_,_,_] (.h 1 (.v 0) (.n 100) (.h 1 (.v 1) (.n 100) (.h 1 (.n 200) (.v 2) .z))) 1 (.a (.v 0) (.v 1)) (.v 2) rfl h1 h2 hl), br_t, sS_app]
theorem sub_pc (v : Int) (h0 : 0 ≤ v) (h1 : v < 6) : ∃ t ∈ pcs, ∀ σ k, sub σ pcP (.int v) k = k (.str (sS t)) := by
  have : v = 0 ∨ v = 1 ∨ v = 2 ∨ v = 3 ∨ v = 4 ∨ v = 5 := by omega
  rcases this with rfl | rfl | rfl | rfl | rfl | rfl
  · exact ⟨[97], by decide, fun σ k => rfl⟩
  · exact ⟨[90, 113, 57], by decide, fun σ k => rfl⟩
  · exact ⟨[120, 46, 121], by decide, fun σ k => rfl⟩
  · exact ⟨[98, 32, 99], by decide, fun σ k => rfl⟩
  · exact ⟨[61, 63, 113, 63, 61], by decide, fun σ k => rfl⟩
  · exact ⟨[39, 116], by decide, fun σ k => rfl⟩
theorem pcs_ok : ∀ t ∈ pcs, t ≠ [] ∧ t.length ≤ 5 ∧ ∀ c ∈ t, c ≤ 256 := by decide
noncomputable def M403 (mf : MF) : Prop := ∀ d s c : Int, 0 ≤ d → 0 ≤ s → s < pP → 0 ≤ c → c < 500 → ∃ (ts : List (List Nat)) (d' c' : Int), (∀ t ∈ ts, Sml t) ∧ 0 ≤ d' ∧ 0 ≤ c' ∧ c' ≤ c + 4 ∧ ∀ κ, mf 403 (tpC d s c) [] κ = noX (κ (.lst (ts.map fun t => .str (sS t))) (tpC d' s c') [])
theorem m403_ok (h391 : M391 mf) (h398 : M398 mf) : M403 (SXO lf pf mf).mf := fun d s c hd hs hs2 hc hc2 => by
  refine nn fun nG => ?_
  obtain ⟨n1, d1, c1, b1, b2, b3, b4, e1⟩ := h398 d s c hd hs hs2 hc (by omega)
  obtain ⟨n2, d2, c2, f1, f2, f3, f4, e2⟩ := h398 d1 s c1 b2 hs hs2 b3 (by omega)
  obtain ⟨v3, d3, c3, g1, g2, g3, g4, g5, e3⟩ := h391 d2 s c2 6 f2 hs hs2 f3 (by omega) (by decide) (by decide)
  obtain ⟨v4, d4, c4, i1, i2, i3, i4, i5, e4⟩ := h391 d3 s c3 6 g3 hs hs2 g4 (by omega) (by decide) (by decide)
  obtain ⟨l, hl, p3⟩ := sub_pc v3 g1 g2
  obtain ⟨r, hr, p4⟩ := sub_pc v4 i1 i2
  obtain ⟨l1, l2, l3⟩ := pcs_ok l hl
  obtain ⟨r1, r2, r3⟩ := pcs_ok r hr
  refine nG ?_
  refine ⟨[[n1], [n1] ++ l, l ++ [n1] ++ r, l ++ [n1], [n1] ++ l ++ [n2]], d4, c4, fun t ht => ?_, i3, i4, by omega, fun κ => ?_⟩
  · have all : ∀ t : List Nat, t.length ≤ 50 → t ≠ [] → (∀ c ∈ t, c = n1 ∨ c = n2 ∨ c ∈ l ∨ c ∈ r) → Sml t := fun t h1 h2 h3 => ⟨h2, h1, fun c hc => by
      rcases h3 c hc with rfl | rfl | h | h
      · exact b1
      · exact f1
      · exact l3 c h
      · exact r3 c h⟩
    simp only [List.mem_cons, List.not_mem_nil, or_false] at ht
    rcases ht with rfl | rfl | rfl | rfl | rfl
    · refine all _ (by simp) (by simp) fun c hc => ?_
      exact .inl (List.mem_singleton.mp hc)
    · refine all _ (by simp; exact Nat.le_trans l2 (by decide)) (by simp) fun c hc => ?_
      rcases List.mem_append.mp hc with h | h
      · exact .inl (List.mem_singleton.mp h)
      · exact .inr (.inr (.inl h))
    · refine all _ (by simp; exact chk [_,_] (.h 1 (.v 0) (.n 5) (.h 1 (.v 1) (.n 5) .z)) 1 (.a (.v 0) (.a (.v 1) (.n 1))) (.n 50) rfl l2 r2) (by simp) fun c hc => ?_
      rcases List.mem_append.mp hc with h | h
      · rcases List.mem_append.mp h with h | h
        · exact .inr (.inr (.inl h))
        · exact .inl (List.mem_singleton.mp h)
      · exact .inr (.inr (.inr h))
    · refine all _ (by simp; exact Nat.le_trans l2 (by decide)) (by simp) fun c hc => ?_
      rcases List.mem_append.mp hc with h | h
      · exact .inr (.inr (.inl h))
      · exact .inl (List.mem_singleton.mp h)
    · refine all _ (by simp; exact Nat.le_trans l2 (by decide)) (by simp) fun c hc => ?_
      rcases List.mem_append.mp hc with h | h
      · rcases List.mem_append.mp h with h | h
        · exact .inl (List.mem_singleton.mp h)
        · exact .inr (.inr (.inl h))
      · exact .inr (.inl (List.mem_singleton.mp h))
  · rw [eq403, e1, rK, cf398, e2]
    show pM _ _ _ _ (m403 (some (.str (one n1))) (some (.str (one n2))) none none) [tpC d2 s c2] = _
    rw [a403, cf391, e3, rK, p3]
    show noX (cf (QX lf pf mf) [tpC d3 s c3] 391 [.cell 0, .int 6] _) = _
    rw [cf391, e4, rK, p4]
    show noX (pM _ _ _ _ (m403 (some (.str (one n1))) (some (.str (one n2))) (some (.str (sS l))) (some (.str (sS r)))) [tpC d4 s c4]) = _
    rw [b403]
    show noX (binop .Add (.str (sS [n1])) (.str (sS l)) _) = _
    rw [add_s _ _ (by simp) (by omega)]
    show noX (binop .Add (.str (sS l)) (.str (sS [n1])) _) = _
    rw [add_s _ _ (by omega) (by simp), add_s _ _ (by simp; omega) (by exact Nat.le_trans r2 (by decide))]
    show noX (binop .Add (.str (sS l)) (.str (sS [n1])) _) = _
    rw [add_s _ _ (by omega) (by simp)]
    show noX (binop .Add (.str (sS [n1])) (.str (sS l)) _) = _
    rw [add_s _ _ (by simp) (by omega)]
    show noX (binop .Add (.str (sS ([n1] ++ l))) (.str (sS [n2])) _) = _
    rw [add_s _ _ (by simp; omega) (by simp)]
    rfl

/- 439 law -/
noncomputable abbrev m439 (l : PV) (t x d y : Option PV) : Loc := [some l, t, x, d, y, none, none, none, none]
theorem eq439 (l : List PV) (k : KV) : (SXO lf pf mf).pf 439 [.lst l] k = pf 384 [.lst l] fun v fr => retK [] v fr fun v σ => pW (QX lf pf mf) (stAt 52) 1 k (m439 (.lst l) (some v) none none none) σ := by kernel_rfl
theorem a439 (l vs : List PV) (k : KV) : pW (QX lf pf mf) (stAt 52) 1 k (m439 (.lst l) (some (.cell 0)) none none none) [.list vs] = cf (QX lf pf mf) [.list vs] 403 [.cell 0] fun v σ => pW (QX lf pf mf) (stAt 52) 2 k (m439 (.lst l) (some (.cell 0)) (some v) none none) σ := by kernel_rfl
noncomputable abbrev doP : PV := .tup [.str (dS 0), .str (dS 1), .str (dS 2)]
theorem b439 (l vs ts : List PV) (k : KV) : pW (QX lf pf mf) (stAt 52) 2 k (m439 (.lst l) (some (.cell 0)) (some (.lst ts)) none none) [.list vs] = cf (QX lf pf mf) [.list vs] 391 [.cell 0, .int 3] fun v σ => sub σ doP v fun d => pW (QX lf pf mf) (stAt 52) 3 k (m439 (.lst l) (some (.cell 0)) (some (.lst ts)) (some d) none) σ := by kernel_rfl
theorem c439 (l vs ts : List PV) (d : PV) (k : KV) : pW (QX lf pf mf) (stAt 52) 3 k (m439 (.lst l) (some (.cell 0)) (some (.lst ts)) (some d) none) [.list vs] = forL ts (bF (QX lf pf mf) (kR k) (stAt 52) 3) (m439 (.lst l) (some (.cell 0)) (some (.lst ts)) (some d) none) [.list vs] (pW (QX lf pf mf) (stAt 52) 4 k) := by kernel_rfl
theorem d439 (l vs ts : List PV) (d : Str) (x : Option PV) (t : Str) (κ : KV) (k : KS) : bF (QX lf pf mf) (kR κ) (stAt 52) 3 (.str t) (m439 (.lst l) (some (.cell 0)) (some (.lst ts)) (some (.str d)) x) [.list vs] k = pf 432 [.str t, .str d] fun v fr => retK [.list vs] v fr (kB fun c σ => br (!c) (κ (.bool false) []) (k (m439 (.lst l) (some (.cell 0)) (some (.lst ts)) (some (.str d)) (some (.str t))) σ)) := by kernel_rfl
theorem e439 (m : Loc) (σ : List Cell) (k : KV) : pW (QX lf pf mf) (stAt 52) 4 k m σ = k (.bool true) [] := by kernel_rfl
theorem cfl403 (vs : List PV) (k : KV) : cf (QX lf pf mf) [.list vs] 403 [.cell 0] k = mf 403 (.list vs) [] fun v c fr => retK [c] v fr k := by kernel_rfl
theorem lp439 (h432 : S432 pf) (l vs ts0 : List PV) (i : Nat) (k : KV) : ∀ (ts : List (List Nat)) (x : Option PV), (∀ t ∈ ts, Sml t) →
    forL (ts.map fun t => .str (sS t)) (bF (QX lf pf mf) (kR k) (stAt 52) 3) (m439 (.lst l) (some (.cell 0)) (some (.lst ts0)) (some (.str (dS i))) x) [.list vs] (pW (QX lf pf mf) (stAt 52) 4 k) = k (.bool true) []
  | [], x, h => by
    show pW _ _ _ _ _ _ = _
    rw [e439]
  | t :: ts, x, h => by
    rw [List.map_cons, forL, d439, h432 t i _ (h t (.head _))]
    exact lp439 h432 l vs ts0 i k ts _ fun u hu => h u (.tail _ hu)
theorem sub_do (v : Int) (h0 : 0 ≤ v) (h1 : v < 3) : ∃ i, ∀ σ k, sub σ doP (.int v) k = k (.str (dS i)) := by
  have : v = 0 ∨ v = 1 ∨ v = 2 := by omega
  rcases this with rfl | rfl | rfl
  · exact ⟨0, fun σ k => rfl⟩
  · exact ⟨1, fun σ k => rfl⟩
  · exact ⟨2, fun σ k => rfl⟩
noncomputable def S439 (pf : PF) : Prop := ∀ (l : List Int) (κ : KV), pf 439 [.lst (l.map .int)] κ = noX (κ (.bool true) [])
theorem s439 (h384 : S384 pf) (h391 : M391 mf) (h403 : M403 mf) (h432 : S432 pf) : S439 (SXO lf pf mf).pf := fun l κ => by
  refine nn fun nG => ?_
  obtain ⟨d, s, a1, a2, a3, e1⟩ := h384 l
  obtain ⟨ts, d2, c2, b1, b2, b3, b4, e2⟩ := h403 d s 0 a1 a2 a3 (by decide) (by decide)
  obtain ⟨v, d3, c3, g1, g2, g3, g4, g5, e3⟩ := h391 d2 s c2 3 b2 a2 a3 b3 (by omega) (by decide) (by decide)
  obtain ⟨i, e4⟩ := sub_do v g1 g2
  refine nG ?_
  rw [eq439, e1]
  show pW _ _ _ _ (m439 _ (some (.cell 0)) none none none) [tpC d s 0] = _
  rw [a439, cfl403, e2, rK, b439, cf391, e3, rK, e4, c439, lp439 h432 _ _ _ i κ ts none b1]
theorem lv384 (n : Nat) : S384 (O (n + 2)).pf := by rw [O_s]; exact s384
theorem lv391 (n : Nat) : M391 (O (n + 2)).mf := by rw [O_s]; exact m391
theorem lv398 (n : Nat) : M398 (O (n + 3)).mf := by rw [O_s (n + 1)]; exact m398 (lv391 n)
theorem lv403 (n : Nat) : M403 (O (n + 4)).mf := by rw [O_s (n + 2)]; exact m403_ok (lv391 (n + 1)) (lv398 n)
theorem lv439 (n : Nat) : S439 (O (n + 16)).pf := by rw [O_s (n + 14)]; exact s439 (lv384 (n + 13)) (lv391 (n + 13)) (lv403 (n + 11)) (lv432 n)
end Mine
end
section
open PySem PySem.W PyProof.Rows
namespace Mine
set_option maxRecDepth 100000

theorem reps_ints {g : Heap} : ∀ {ns : List Int} {vs : List Value}, IntsAre vs ns → Reps g (ns.map .int) vs := by
  intro ns vs h
  induction h with
  | nil => simp [Reps]
  | cons n t _ ih =>
    simp only [List.map_cons, Reps]
    exact ⟨_, _, rfl, ⟨_, rfl⟩, ih⟩
theorem law_at (W : Wd) : nsIn W.K mainGlobals (sOf "law") = some (some (.ref 439)) := by kernel_rfl
noncomputable abbrev lcl : ClaimW := PySem.Challenge.rw_pq0946_01.row.claim
theorem post_ok (args : List WData) : lcl.post args (.bool true) args = true := by kernel_rfl
theorem raises_ok (args : List WData) (cls : ExcName) : lcl.raises args cls = false := rfl
theorem law_end {w : World} {mean : ExcName → Option Value} {cl : Str → Option Addr} {mg mb : Str → Option Value} {s₁ : Shared} {fa l : Addr} {ns : List Int} {vs : List Value} {args : List WData}
    (KX : (H.Kf w.params).In s₁.heap) (T : Top H.vw (looseW H.vw H.loo) mean mg mb s₁.heap) (hmg : mg (sOf "law") = some (.ref fa)) (hg : s₁.gens = #[])
    (hL : s₁.heap.IsList l vs.toArray) (hI : IntsAre vs ns) (hlen : ns.length ≤ 63) :
    wpAny (model PR w) callerA (call (.ref fa) [.ref l]) (fun v s' => GoodWG lcl cl mean args s₁ (.ok (.ret v)) s') (fun e s' => GoodWG lcl cl mean args s₁ (.error e) s') s₁ := by
  let W : Wd := ⟨w, mean, mg, mb⟩
  have kn : Kn W s₁.heap := ⟨KX, T⟩
  have h1 := mg_of (K := W.K) KX T.g (law_at W)
  rw [hmg] at h1
  cases h1
  have hk : (O 16).pf 439 [.lst (ns.map .int)] (fun v σ => .ok v σ) = .ok (.bool true) [] := lv439 0 ns _
  have hz : vs.length ≤ sizeLine := by rw [hI.length, sizeLine_eq]; exact Nat.le_trans hlen (by decide)
  have R : Ready W [] callerA (2 * 16) s₁.heap s₁ := ⟨kn, StaysIn.refl _, rfl, rfl, trivial, by decide +kernel, by decide +kernel⟩
  refine (orc_ok W 16).pf 439 _ _ _ hk (by intro q; cases q) [] callerA s₁.heap s₁ [.ref l] _ _ R ?_ ?_ ?_
  · simp only [Reps, Rep]
    exact ⟨_, _, rfl, ⟨l, vs, rfl, hL, reps_ints hI, hz⟩, rfl⟩
  · intro p v fr g' s' e st kn' kp rs sm
    cases e
    cases (show v = .bool true from rs)
    refine GoodW.toG ⟨.inl ⟨_, .bool true, [], rfl, raises_ok args, .bool true, post_ok args, fun ζ => ⟨List.nodup_nil, fun a ha => nim ha⟩⟩, fun b o e => kp b o (st.gg b o e), sm.1, sm.2.trans hg⟩
  · intro he
    cases he
set_option maxHeartbeats 4000000 in
theorem fin_law : PySem.Challenge.rw_pq0946_01.Holds := H.hd (by
  intro w s₀ s₁ mg mb G Y fa o pm cd doc dV kV ho hd' hcd hD hmg hg args vals as hpre hlay hrd hwl hlo
  have KX := kIn_of Y
  have T := Ground.T G
  clear G Y hd' hcd hD ho
  wrow_args hpre hlay hrd hwl hlo
  refine law_end KX T ((congrArg mg (show sOf "law" = H.lawD.name by kernel_rfl)).trans hmg) hg (by assumption) (by assumption) (by omega))
end Mine
end
theorem PySem.Challenge.cw_pq0946_01_holds : PySem.Challenge.rw_pq0946_01.Holds :=
  Mine.fin_law
