import PyProof.Rows.All
import Wide.All
import OpenK.AllK
import Wide.FinOn
import PySem.Challenge.RW_xm0954_01
open PySem PySem.W PyProof.Rows PySem.Calls
set_option Elab.async false
set_option maxRecDepth 100000
section HdK
set_option maxHeartbeats 0
namespace Mine
/-- the law's row's program -/
noncomputable abbrev hd.pw : Program := PySem.Challenge.rw_xm0954_01.row.prog
/-- the statements of the top that the proof looks at -/
noncomputable def hd.view_39 : Program := view hd.pw ([55])
noncomputable def hd.at (i : Nat) (l : List Stmt) : Stmt := (l[i]?).getD (.Pass default)
/-- the object that a def statement of the text makes -/
noncomputable def hd.fnO (q pm : Str) (t : Tok) (c : Addr) : Stmt → Obj
  | .FunctionDef n a b _ _ _ sc _ _ _ => ⟨.type "function", none, .func { name := n, qualname := q, params := a, body := .stmts b, scope := sc, globals := 3, closure := [], defaults := .none, kwdefaults := .none, pyModule := .str pm t, code := .ref c }, #[]⟩
  | _ => default
noncomputable def hd.bodyOf : Stmt → List Stmt
  | .ClassDef _ _ _ b _ _ _ _ _ _ _ => b
  | _ => []
noncomputable def hd.fo (i : Nat) (q pm : Str) (t : Tok) (c : Addr) : Obj := hd.fnO q pm t c (hd.at i hd.pw.main.body)
noncomputable def hd.me (i j : Nat) (q pm : Str) (t : Tok) (c : Addr) : Obj := hd.fnO q pm t c (hd.at j (hd.bodyOf (hd.at i hd.pw.main.body)))
noncomputable def hd.en (P : Params) (n : Str) (t : Tok) (v : Value) : DictEntry := ⟨PyData.keyHash P n, .str n t, v⟩
/-- what the top leaves: the objects that the proof looks at -/
noncomputable def hd.heap_39 (P : Params) : Frag :=
  [(2, ⟨Value.none, none, .dict ([hd.en P "type.__subclasses__.Exception.0" 219 (Value.int 34 0), hd.en P "type.__subclasses__.Exception.n" 220 (Value.int 1 0)]).toArray 2, #[]⟩),
   (3, ⟨Value.type "dict", none, .dict (([hd.en P "__name__" 165 (Value.str "law_xm0954_01" 781), hd.en P "__doc__" 166 Value.none, hd.en P "__package__" 167 Value.none, hd.en P "__loader__" 168 (Value.builtin "__main__.__loader__#opaque"), hd.en P "__spec__" 169 Value.none, hd.en P "__annotations__" 170 (Value.ref 6), hd.en P "__builtins__" 171 (Value.ref 4), hd.en P "__file__" 173 (Value.str "/claim/cut.py" 172), hd.en P "__cached__" 174 Value.none, hd.en P "SnobolError" 222 (Value.ref 34), hd.en P "Failure" 242 (Value.ref 47), hd.en P "Pattern" 271 (Value.ref 68)] ++ [hd.en P "Delayed" 300 (Value.ref 89), hd.en P "NameRef" 333 (Value.ref 110), hd.en P "is_fail" 340 (Value.ref 121), hd.en P "fits" 348 (Value.ref 128), hd.en P "whole_of_text" 359 (Value.ref 135), hd.en P "text_of_whole" 368 (Value.ref 142), hd.en P "to_whole" 376 (Value.ref 149), hd.en P "to_text" 383 (Value.ref 156), hd.en P "need_text" 391 (Value.ref 163), hd.en P "COUNTED" 399 (Value.ref 164), hd.en P "SIGNED" 404 (Value.ref 165), hd.en P "WIDTH_OF_COUNT" 406 (Value.int 64 405)] ++ [hd.en P "plain_count" 416 (Value.ref 173), hd.en P "plain_signs" 425 (Value.ref 180), hd.en P "pattern_of" 433 (Value.ref 187), hd.en P "is_delayed" 440 (Value.ref 194), hd.en P "settled" 449 (Value.ref 201), hd.en P "OPENING" 453 (Value.str "(" 452), hd.en P "CLOSING" 455 (Value.str ")" 454), hd.en P "chars_end" 465 (Value.ref 208), hd.en P "len_end" 474 (Value.ref 215), hd.en P "pos_end" 482 (Value.ref 222), hd.en P "rpos_end" 491 (Value.ref 229), hd.en P "tab_end" 500 (Value.ref 236)] ++ [hd.en P "rtab_end" 510 (Value.ref 243), hd.en P "rem_end" 517 (Value.ref 250), hd.en P "any_at" 526 (Value.ref 257), hd.en P "notany_at" 535 (Value.ref 264), hd.en P "run_end" 545 (Value.ref 271), hd.en P "span_end" 555 (Value.ref 278), hd.en P "break_end" 565 (Value.ref 285), hd.en P "bal_end" 574 (Value.ref 292), hd.en P "bal_ends" 584 (Value.ref 299), hd.en P "one_end" 594 (Value.ref 306), hd.en P "plain_end" 603 (Value.ref 313), hd.en P "LOST" 607 (Value.str "lost" 606)] ++ [hd.en P "match_plain" 619 (Value.ref 320), hd.en P "match_at" 630 (Value.ref 327), hd.en P "tried" 645 (Value.ref 334), hd.en P "advanced" 661 (Value.ref 341), hd.en P "led_in" 673 (Value.ref 348), hd.en P "led_out" 689 (Value.ref 355), hd.en P "steered" 701 (Value.ref 362), hd.en P "taken" 718 (Value.ref 369), hd.en P "PlainHost" 780 (Value.ref 407), hd.en P "_law_told" 797 (Value.ref 418), hd.en P "law" 803 (Value.ref 423)])).toArray 59, #[]⟩),
   (46, ⟨Value.type "dict", none, .dict ([hd.en P "__module__" 230 (Value.str "snobol.values" 187), hd.en P "__firstlineno__" 234 (Value.int 8 233), hd.en P "__static_attributes__" 235 (Value.ref 45), hd.en P "__dict__" 237 (Value.ref 48), hd.en P "__weakref__" 239 (Value.ref 49), hd.en P "__doc__" 240 Value.none]).toArray 4, #[]⟩),
   (47, { cls := Value.type "type", data := Data.cls { name := Str.ofString "Failure", bases := [Value.type "object"], mro := [Value.ref 47, Value.type "object"], ns := 46, qualname := Str.ofString "Failure" }, slots := #[none, none, some (Value.str "Failure" 223), some (Value.str "Failure" 231), some (Value.builtin "object.__new__"), some (Value.bool true)] }),
   (67, ⟨Value.type "dict", none, .dict ([hd.en P "__module__" 250 (Value.str "snobol.values" 187), hd.en P "__firstlineno__" 254 (Value.int 10 253), hd.en P "__init__" 262 (Value.ref 65), hd.en P "__static_attributes__" 264 (Value.ref 66), hd.en P "__dict__" 266 (Value.ref 69), hd.en P "__weakref__" 268 (Value.ref 70), hd.en P "__doc__" 269 Value.none]).toArray 4, #[]⟩),
   (68, { cls := Value.type "type", data := Data.cls { name := Str.ofString "Pattern", bases := [Value.type "object"], mro := [Value.ref 68, Value.type "object"], ns := 67, qualname := Str.ofString "Pattern" }, slots := #[none, none, some (Value.str "Pattern" 243), some (Value.str "Pattern" 251), some (Value.builtin "object.__new__"), some (Value.bool true)] }),
   (88, ⟨Value.type "dict", none, .dict ([hd.en P "__module__" 279 (Value.str "snobol.values" 187), hd.en P "__firstlineno__" 283 (Value.int 14 282), hd.en P "__init__" 291 (Value.ref 86), hd.en P "__static_attributes__" 293 (Value.ref 87), hd.en P "__dict__" 295 (Value.ref 90), hd.en P "__weakref__" 297 (Value.ref 91), hd.en P "__doc__" 298 Value.none]).toArray 4, #[]⟩),
   (89, { cls := Value.type "type", data := Data.cls { name := Str.ofString "Delayed", bases := [Value.type "object"], mro := [Value.ref 89, Value.type "object"], ns := 88, qualname := Str.ofString "Delayed" }, slots := #[none, none, some (Value.str "Delayed" 272), some (Value.str "Delayed" 280), some (Value.builtin "object.__new__"), some (Value.bool true)] }),
   (106, { cls := Value.type "code", data := Data.fields #[Value.str "__init__" 313, Value.str "NameRef.__init__" 314, Value.str "/claim/cut.py" 315, Value.int 20 0, Value.int 4 0, Value.int 0 0, Value.int 0 0, Value.int 3 0, Value.ref 101, Value.bool true, Value.int 181 0, Value.ref 102, Value.none, Value.ref 103, Value.ref 104, Value.ref 105, Value.int 320 0, Value.int 20 0, Value.str "/claim/cut.py" 321] }),
   (107, hd.me 5 0 "NameRef.__init__" "snobol.values" 187 106),
   (109, ⟨Value.type "dict", none, .dict ([hd.en P "__module__" 308 (Value.str "snobol.values" 187), hd.en P "__firstlineno__" 312 (Value.int 18 311), hd.en P "__init__" 322 (Value.ref 107), hd.en P "__static_attributes__" 326 (Value.ref 108), hd.en P "__dict__" 328 (Value.ref 111), hd.en P "__weakref__" 330 (Value.ref 112), hd.en P "__doc__" 331 Value.none]).toArray 4, #[]⟩),
   (110, { cls := Value.type "type", data := Data.cls { name := Str.ofString "NameRef", bases := [Value.type "object"], mro := [Value.ref 110, Value.type "object"], ns := 109, qualname := Str.ofString "NameRef" }, slots := #[none, none, some (Value.str "NameRef" 301), some (Value.str "NameRef" 309), some (Value.builtin "object.__new__"), some (Value.bool true)] }),
   (120, { cls := Value.type "code", data := Data.fields #[Value.str "is_fail" 334, Value.str "is_fail" 335, Value.str "/claim/cut.py" 336, Value.int 24 0, Value.int 1 0, Value.int 0 0, Value.int 0 0, Value.int 3 0, Value.ref 115, Value.bool true, Value.int 181 0, Value.ref 116, Value.none, Value.ref 117, Value.ref 118, Value.ref 119, Value.int 338 0, Value.int 24 0, Value.str "/claim/cut.py" 339] }),
   (121, hd.fo 6 "is_fail" "snobol.values" 187 120),
   (155, { cls := Value.type "code", data := Data.fields #[Value.str "to_text" 377, Value.str "to_text" 378, Value.str "/claim/cut.py" 379, Value.int 51 0, Value.int 1 0, Value.int 0 0, Value.int 0 0, Value.int 3 0, Value.ref 150, Value.bool true, Value.int 181 0, Value.ref 151, Value.none, Value.ref 152, Value.ref 153, Value.ref 154, Value.int 381 0, Value.int 51 0, Value.str "/claim/cut.py" 382] }),
   (156, hd.fo 11 "to_text" "snobol.values" 187 155),
   (164, { cls := Value.type "tuple", data := Data.seq #[Value.str "len" 394, Value.str "pos" 395, Value.str "rpos" 396, Value.str "tab" 397, Value.str "rtab" 398] }),
   (165, { cls := Value.type "tuple", data := Data.seq #[Value.str "any" 400, Value.str "notany" 401, Value.str "span" 402, Value.str "break" 403] }),
   (186, { cls := Value.type "code", data := Data.fields #[Value.str "pattern_of" 426, Value.str "pattern_of" 427, Value.str "/claim/cut.py" 428, Value.int 76 0, Value.int 1 0, Value.int 0 0, Value.int 0 0, Value.int 3 0, Value.ref 181, Value.bool true, Value.int 181 0, Value.ref 182, Value.none, Value.ref 183, Value.ref 184, Value.ref 185, Value.int 431 0, Value.int 76 0, Value.str "/claim/cut.py" 432] }),
   (187, hd.fo 19 "pattern_of" "snobol.nodes" 392 186)] ++
  [(193, { cls := Value.type "code", data := Data.fields #[Value.str "is_delayed" 434, Value.str "is_delayed" 435, Value.str "/claim/cut.py" 436, Value.int 85 0, Value.int 1 0, Value.int 0 0, Value.int 0 0, Value.int 3 0, Value.ref 188, Value.bool true, Value.int 181 0, Value.ref 189, Value.none, Value.ref 190, Value.ref 191, Value.ref 192, Value.int 438 0, Value.int 85 0, Value.str "/claim/cut.py" 439] }),
   (194, hd.fo 20 "is_delayed" "snobol.nodes" 392 193),
   (200, { cls := Value.type "code", data := Data.fields #[Value.str "settled" 441, Value.str "settled" 442, Value.str "/claim/cut.py" 443, Value.int 87 0, Value.int 2 0, Value.int 0 0, Value.int 0 0, Value.int 3 0, Value.ref 195, Value.bool true, Value.int 181 0, Value.ref 196, Value.none, Value.ref 197, Value.ref 198, Value.ref 199, Value.int 447 0, Value.int 87 0, Value.str "/claim/cut.py" 448] }),
   (201, hd.fo 21 "settled" "snobol.nodes" 392 200),
   (207, { cls := Value.type "code", data := Data.fields #[Value.str "chars_end" 456, Value.str "chars_end" 457, Value.str "/claim/cut.py" 458, Value.int 99 0, Value.int 3 0, Value.int 0 0, Value.int 0 0, Value.int 3 0, Value.ref 202, Value.bool true, Value.int 181 0, Value.ref 203, Value.none, Value.ref 204, Value.ref 205, Value.ref 206, Value.int 463 0, Value.int 99 0, Value.str "/claim/cut.py" 464] }),
   (208, hd.fo 25 "chars_end" "snobol.primitives" 450 207),
   (214, { cls := Value.type "code", data := Data.fields #[Value.str "len_end" 466, Value.str "len_end" 467, Value.str "/claim/cut.py" 468, Value.int 102 0, Value.int 3 0, Value.int 0 0, Value.int 0 0, Value.int 3 0, Value.ref 209, Value.bool true, Value.int 181 0, Value.ref 210, Value.none, Value.ref 211, Value.ref 212, Value.ref 213, Value.int 472 0, Value.int 102 0, Value.str "/claim/cut.py" 473] }),
   (215, hd.fo 26 "len_end" "snobol.primitives" 450 214),
   (305, { cls := Value.type "code", data := Data.fields #[Value.str "one_end" 585, Value.str "one_end" 586, Value.str "/claim/cut.py" 587, Value.int 148 0, Value.int 4 0, Value.int 0 0, Value.int 0 0, Value.int 3 0, Value.ref 300, Value.bool true, Value.int 181 0, Value.ref 301, Value.none, Value.ref 302, Value.ref 303, Value.ref 304, Value.int 592 0, Value.int 148 0, Value.str "/claim/cut.py" 593] }),
   (306, hd.fo 39 "one_end" "snobol.primitives" 450 305),
   (312, { cls := Value.type "code", data := Data.fields #[Value.str "plain_end" 595, Value.str "plain_end" 596, Value.str "/claim/cut.py" 597, Value.int 168 0, Value.int 3 0, Value.int 0 0, Value.int 0 0, Value.int 3 0, Value.ref 307, Value.bool true, Value.int 181 0, Value.ref 308, Value.none, Value.ref 309, Value.ref 310, Value.ref 311, Value.int 601 0, Value.int 168 0, Value.str "/claim/cut.py" 602] }),
   (313, hd.fo 40 "plain_end" "snobol.primitives" 450 312),
   (319, { cls := Value.type "code", data := Data.fields #[Value.str "match_plain" 608, Value.str "match_plain" 609, Value.str "/claim/cut.py" 610, Value.int 172 0, Value.int 4 0, Value.int 0 0, Value.int 0 0, Value.int 3 0, Value.ref 314, Value.bool true, Value.int 181 0, Value.ref 315, Value.none, Value.ref 316, Value.ref 317, Value.ref 318, Value.int 617 0, Value.int 172 0, Value.str "/claim/cut.py" 618] }),
   (320, hd.fo 43 "match_plain" "snobol.trial" 604 319),
   (326, { cls := Value.type "code", data := Data.fields #[Value.str "match_at" 620, Value.str "match_at" 621, Value.str "/claim/cut.py" 622, Value.int 178 0, Value.int 4 0, Value.int 0 0, Value.int 0 0, Value.int 3 0, Value.ref 321, Value.bool true, Value.int 181 0, Value.ref 322, Value.none, Value.ref 323, Value.ref 324, Value.ref 325, Value.int 628 0, Value.int 178 0, Value.str "/claim/cut.py" 629] }),
   (327, hd.fo 44 "match_at" "snobol.trial" 604 326),
   (333, { cls := Value.type "code", data := Data.fields #[Value.str "tried" 631, Value.str "tried" 632, Value.str "/claim/cut.py" 633, Value.int 181 0, Value.int 4 0, Value.int 0 0, Value.int 0 0, Value.int 3 0, Value.ref 328, Value.bool true, Value.int 181 0, Value.ref 329, Value.none, Value.ref 330, Value.ref 331, Value.ref 332, Value.int 643 0, Value.int 181 0, Value.str "/claim/cut.py" 644] }),
   (334, hd.fo 45 "tried" "snobol.trial" 604 333),
   (340, { cls := Value.type "code", data := Data.fields #[Value.str "advanced" 646, Value.str "advanced" 647, Value.str "/claim/cut.py" 648, Value.int 199 0, Value.int 6 0, Value.int 0 0, Value.int 0 0, Value.int 3 0, Value.ref 335, Value.bool true, Value.int 181 0, Value.ref 336, Value.none, Value.ref 337, Value.ref 338, Value.ref 339, Value.int 659 0, Value.int 199 0, Value.str "/claim/cut.py" 660] }),
   (341, hd.fo 46 "advanced" "snobol.trial" 604 340)] ++
  [(347, { cls := Value.type "code", data := Data.fields #[Value.str "led_in" 662, Value.str "led_in" 663, Value.str "/claim/cut.py" 664, Value.int 214 0, Value.int 5 0, Value.int 0 0, Value.int 0 0, Value.int 3 0, Value.ref 342, Value.bool true, Value.int 181 0, Value.ref 343, Value.none, Value.ref 344, Value.ref 345, Value.ref 346, Value.int 671 0, Value.int 214 0, Value.str "/claim/cut.py" 672] }),
   (348, hd.fo 47 "led_in" "snobol.trial" 604 347),
   (354, { cls := Value.type "code", data := Data.fields #[Value.str "led_out" 674, Value.str "led_out" 675, Value.str "/claim/cut.py" 676, Value.int 225 0, Value.int 7 0, Value.int 0 0, Value.int 0 0, Value.int 3 0, Value.ref 349, Value.bool true, Value.int 181 0, Value.ref 350, Value.none, Value.ref 351, Value.ref 352, Value.ref 353, Value.int 687 0, Value.int 225 0, Value.str "/claim/cut.py" 688] }),
   (355, hd.fo 48 "led_out" "snobol.trial" 604 354),
   (361, { cls := Value.type "code", data := Data.fields #[Value.str "steered" 690, Value.str "steered" 691, Value.str "/claim/cut.py" 692, Value.int 232 0, Value.int 4 0, Value.int 0 0, Value.int 0 0, Value.int 3 0, Value.ref 356, Value.bool true, Value.int 181 0, Value.ref 357, Value.none, Value.ref 358, Value.ref 359, Value.ref 360, Value.int 699 0, Value.int 232 0, Value.str "/claim/cut.py" 700] }),
   (362, hd.fo 49 "steered" "snobol.trial" 604 361),
   (368, { cls := Value.type "code", data := Data.fields #[Value.str "taken" 702, Value.str "taken" 703, Value.str "/claim/cut.py" 704, Value.int 240 0, Value.int 7 0, Value.int 0 0, Value.int 0 0, Value.int 3 0, Value.ref 363, Value.bool true, Value.int 181 0, Value.ref 364, Value.none, Value.ref 365, Value.ref 366, Value.ref 367, Value.int 716 0, Value.int 240 0, Value.str "/claim/cut.py" 717] }),
   (369, hd.fo 50 "taken" "snobol.trial" 604 368),
   (382, { cls := Value.type "code", data := Data.fields #[Value.str "__init__" 733, Value.str "PlainHost.__init__" 734, Value.str "/claim/cut.py" 735, Value.int 259 0, Value.int 4 0, Value.int 0 0, Value.int 0 0, Value.int 3 0, Value.ref 377, Value.bool true, Value.int 181 0, Value.ref 378, Value.none, Value.ref 379, Value.ref 380, Value.ref 381, Value.int 740 0, Value.int 259 0, Value.str "/claim/cut.py" 741] }),
   (383, hd.me 52 0 "PlainHost.__init__" "snobol.hosts" 719 382),
   (389, { cls := Value.type "code", data := Data.fields #[Value.str "value_of" 743, Value.str "PlainHost.value_of" 744, Value.str "/claim/cut.py" 745, Value.int 267 0, Value.int 2 0, Value.int 0 0, Value.int 0 0, Value.int 3 0, Value.ref 384, Value.bool true, Value.int 181 0, Value.ref 385, Value.none, Value.ref 386, Value.ref 387, Value.ref 388, Value.int 748 0, Value.int 267 0, Value.str "/claim/cut.py" 749] }),
   (390, hd.me 52 1 "PlainHost.value_of" "snobol.hosts" 719 389),
   (396, { cls := Value.type "code", data := Data.fields #[Value.str "assign" 751, Value.str "PlainHost.assign" 752, Value.str "/claim/cut.py" 753, Value.int 272 0, Value.int 3 0, Value.int 0 0, Value.int 0 0, Value.int 3 0, Value.ref 391, Value.bool true, Value.int 181 0, Value.ref 392, Value.none, Value.ref 393, Value.ref 394, Value.ref 395, Value.int 757 0, Value.int 272 0, Value.str "/claim/cut.py" 758] }),
   (397, hd.me 52 2 "PlainHost.assign" "snobol.hosts" 719 396),
   (403, { cls := Value.type "code", data := Data.fields #[Value.str "step" 760, Value.str "PlainHost.step" 761, Value.str "/claim/cut.py" 762, Value.int 279 0, Value.int 1 0, Value.int 0 0, Value.int 0 0, Value.int 3 0, Value.ref 398, Value.bool true, Value.int 181 0, Value.ref 399, Value.none, Value.ref 400, Value.ref 401, Value.ref 402, Value.int 764 0, Value.int 279 0, Value.str "/claim/cut.py" 765] }),
   (404, hd.me 52 3 "PlainHost.step" "snobol.hosts" 719 403),
   (406, ⟨Value.type "dict", none, .dict ([hd.en P "__module__" 728 (Value.str "snobol.hosts" 719), hd.en P "__firstlineno__" 732 (Value.int 257 731), hd.en P "__init__" 742 (Value.ref 383), hd.en P "value_of" 750 (Value.ref 390), hd.en P "assign" 759 (Value.ref 397), hd.en P "step" 766 (Value.ref 404), hd.en P "__static_attributes__" 773 (Value.ref 405), hd.en P "__dict__" 775 (Value.ref 408), hd.en P "__weakref__" 777 (Value.ref 409), hd.en P "__doc__" 778 Value.none]).toArray 4, #[]⟩),
   (407, { cls := Value.type "type", data := Data.cls { name := Str.ofString "PlainHost", bases := [Value.type "object"], mro := [Value.ref 407, Value.type "object"], ns := 406, qualname := Str.ofString "PlainHost" }, slots := #[none, none, some (Value.str "PlainHost" 721), some (Value.str "PlainHost" 729), some (Value.builtin "object.__new__"), some (Value.bool true)] }),
   (417, { cls := Value.type "code", data := Data.fields #[Value.str "_law_told" 783, Value.str "_law_told" 784, Value.str "/claim/cut.py" 785, Value.int 284 0, Value.int 2 0, Value.int 0 0, Value.int 0 0, Value.int 3 0, Value.ref 412, Value.bool true, Value.int 181 0, Value.ref 413, Value.none, Value.ref 414, Value.ref 415, Value.ref 416, Value.int 795 0, Value.int 284 0, Value.str "/claim/cut.py" 796] }),
   (418, hd.fo 54 "_law_told" "law_xm0954_01" 781 417),
   (422, { cls := Value.type "code", data := Data.fields #[Value.str "law" 798, Value.str "law" 799, Value.str "/claim/cut.py" 800, Value.int 296 0, Value.int 1 0, Value.int 0 0, Value.int 0 0, Value.int 3 0, Value.ref 419, Value.bool true, Value.int 181 0, Value.ref 420, Value.none, Value.none, Value.none, Value.ref 421, Value.int 801 0, Value.int 296 0, Value.str "/claim/cut.py" 802] }),
   (423, hd.fo 55 "law" "law_xm0954_01" 781 422)]
noncomputable def hd.as : List Addr := [2, 3, 46, 47, 67, 68, 88, 89, 106, 107, 109, 110, 120, 121, 155, 156, 164, 165, 186, 187, 193, 194, 200, 201, 207, 208, 214, 215, 305, 306, 312, 313, 319, 320, 326, 327, 333, 334, 340, 341, 347, 348, 354, 355, 361, 362, 368, 369, 382, 383, 389, 390, 396, 397, 403, 404, 406, 407, 417, 418, 422, 423]
/-- the global names but law -/
noncomputable def hd.loose : List Str := (["SnobolError", "Failure", "Pattern", "Delayed", "NameRef", "is_fail", "fits", "whole_of_text", "text_of_whole", "to_whole", "to_text", "need_text", "COUNTED", "SIGNED", "WIDTH_OF_COUNT", "plain_count", "plain_signs", "pattern_of", "is_delayed", "settled"] : List Str) ++ (["OPENING", "CLOSING", "chars_end", "len_end", "pos_end", "rpos_end", "tab_end", "rtab_end", "rem_end", "any_at", "notany_at", "run_end", "span_end", "break_end", "bal_end", "bal_ends", "one_end", "plain_end", "LOST", "match_plain"] : List Str) ++ (["match_at", "tried", "advanced", "led_in", "led_out", "steered", "taken", "PlainHost", "_law_told"] : List Str)
end Mine
end HdK
section HdL
set_option maxHeartbeats 0
namespace Mine
/-- the whole top in one run over a tree of objects -/
noncomputable def hd.run (go : SharedT → Thread → Option (SharedT × Thread)) (ok : Thread → Bool) : Nat → SharedT → Thread → Option SharedT
  | 0, _, _ => none
  | n + 1, s, t => match through t with
    | true => some s
    | false => match ok t with
      | false => none
      | true => match go s t with
        | some (s', t') => hd.run go ok n s' t'
        | none => none
theorem hd.run_spec {tb : String → Option Builtin} {p : Program} {w : World} {n₀ : Nat} {ann : Option Value} : ∀ {n : Nat} {s s' : SharedT} {t : Thread}, hd.run (stepT (denote tb) p w) (stepOk n₀ ann) n s t = some s' → topRun tb p w n₀ ann n s.abs t = some s'.abs
  | 0, _, _, _, h => by simp [hd.run] at h
  | n + 1, s, s', t, h => by
    unfold hd.run at h
    unfold topRun
    cases ht : through t with
    | true => rw [ht] at h; cases h; rfl
    | false =>
      rw [ht] at h
      cases hk : stepOk n₀ ann t with
      | false => rw [hk] at h; cases h
      | true =>
        rw [hk] at h
        cases hs : stepT (denote tb) p w s t with
        | none => rw [hs] at h; cases h
        | some r => obtain ⟨s₂, t₂⟩ := r; rw [hs] at h; rw [stepT_spec hs]; exact hd.run_spec h
/-- one step, by the library's quick twins -/
noncomputable def hd.go (p : Program) (w : World) : SharedT → Thread → Option (SharedT × Thread) := PySem.W.Fast.tw10156331382660048174 (PySem.W.Fast.tw11892475500146522536 PySem.W.Fast.tw14364793385576792824) p w
theorem hd.go_eq (p : Program) (w : World) : hd.go p w = stepT (denote treeTable) p w := by
  unfold hd.go
  rw [← PySem.W.Fast.te10156331382660048174, ← PySem.W.Fast.te11892475500146522536, ← PySem.W.Fast.te14364793385576792824]
noncomputable def hd.okay (n₀ : Nat) (ann : Option Value) : Thread → Bool := PySem.W.Fast.tw6613529449190102663 n₀ ann
theorem hd.okay_eq (n₀ : Nat) (ann : Option Value) : hd.okay n₀ ann = stepOk n₀ ann := by
  unfold hd.okay
  rw [← PySem.W.Fast.te6613529449190102663]
theorem hd.seen_eq : PySem.W.Fast.tw4187177175401517315 = openSeen := PySem.W.Fast.te4187177175401517315.symm
noncomputable def hd.tree (l : List Obj) : BT := (l.foldl (fun (x : BT × Nat) o => (x.1.ins x.2 o, x.2 + 1)) (BT.nil, 0)).1
noncomputable def hd.s0 (w : World) (os : OsState) : SharedT := ⟨hd.tree (boot_heap w.params).objs.toList, 11, (boot_heap w.params).life, Array.mk [], boot_drawn, boot_toks, os⟩
theorem hd.s0_ok (w : World) : (fun os => (hd.s0 w os).abs) = fun os => ⟨boot_heap w.params, Array.mk [], boot_drawn, boot_toks, os⟩ := by kernel_rfl
/-- a top by one run -/
theorem hd.left {p q : Program} {loose : List Str} {Xt : Shared → Bool} {α : Type} {Yf : Shared → α} {Ya : World → α} {N m₀ : Nat} {ann : Option Value} {g0 : Bool}
    (open_ : ∀ w : World, (fencedOpening treeTable p w N).map (fun s => (s.heap, s.gens, s.drawn, s.toks)) = some (boot_heap w.params, Array.mk [], boot_drawn, boot_toks))
    (size : ∀ w : World, ((boot_heap w.params).isNs mainGlobals && (Array.mk [] : Array GenState).size == 0, (boot_heap w.params).objs.size, (boot_heap w.params).nsMap mainGlobals "__annotations__") = (true, m₀, ann))
    (run : ∀ (w : World) (os : OsState), (hd.run (hd.go p w) (hd.okay m₀ ann) N (hd.s0 w os) (topStub p)).map (fun s => ((staticsOk (importedModules p.main.body) (boot_heap w.params) s.abs.heap && namesBound p s.abs.heap && gensDone s.abs && laidKept (boot_heap w.params) s.abs.heap), Yf s.abs)) = some (true, Ya w))
    (look : ∀ (w : World) (os : OsState), (hd.run (hd.go p w) (hd.okay m₀ ann) N (hd.s0 w os) (topStub p)).map (fun s => PySem.W.Fast.tw4187177175401517315 q loose (importedModules p.main.body) Xt g0 s.abs) = some (openGood q loose)) : LeftO p q loose Xt Yf Ya N g0 := fun w => by
  obtain ⟨⟨h, gs, d, k, os⟩, e, e'⟩ := Option.map_eq_some_iff.mp (open_ w)
  obtain ⟨rfl, rfl, rfl, rfl⟩ : h = boot_heap w.params ∧ gs = Array.mk [] ∧ d = boot_drawn ∧ k = boot_toks := by simpa using e'
  obtain ⟨z1, z2, z3⟩ : _ ∧ _ ∧ _ := by simpa only [Prod.mk.injEq] using size w
  obtain ⟨s, r, l⟩ := Option.map_eq_some_iff.mp (run w os)
  obtain ⟨l1, l3⟩ : _ ∧ _ := by simpa only [Prod.mk.injEq] using l
  have l2 := look w os
  rw [r] at l2
  have l2 := Option.some.inj l2
  rw [hd.seen_eq] at l2
  rw [hd.go_eq, hd.okay_eq] at r
  have r' := hd.run_spec r
  rw [congrFun (hd.s0_ok w) os] at r'
  have t : topFrom treeTable p w N ⟨boot_heap w.params, Array.mk [], boot_drawn, boot_toks, os⟩ = some s.abs := by
    unfold topFrom
    dsimp only
    rw [z1, z2, z3, r']
    show (match staticsOk (importedModules p.main.body) (boot_heap w.params) s.abs.heap && namesBound p s.abs.heap && gensDone s.abs && laidKept (boot_heap w.params) s.abs.heap with | true => _ | false => _) = _
    rw [l1]
  unfold openEnds
  rw [e]
  show (topFrom treeTable p w N _).map _ = _
  rw [t]
  exact congrArg some (Prod.ext l2 l3)
theorem hd.size (w : World) : ((boot_heap w.params).isNs mainGlobals && (Array.mk [] : Array GenState).size == 0, (boot_heap w.params).objs.size, (boot_heap w.params).nsMap mainGlobals "__annotations__") = (true, 11, some (.ref 6)) := by kernel_rfl
theorem hd.open_ (w : World) : (fencedOpening treeTable hd.pw w 2790).map (fun s => (s.heap, s.gens, s.drawn, s.toks)) = some (boot_heap w.params, Array.mk [], boot_drawn, boot_toks) := boot_open (by kernel_rfl) (by decide) (fun s => by kernel_rfl) w
end Mine
end HdL
section HdR
set_option maxHeartbeats 0
namespace Mine
theorem hd.as_ok (P : Params) : hd.as = (hd.heap_39 P).map (·.1) := by kernel_rfl
noncomputable abbrev hd.hook : Hook := kHook hd.heap_39 hd.as hd.as_ok
noncomputable abbrev hd.row : RowW := PySem.Challenge.rw_xm0954_01.row.toRowW
noncomputable def hd.xt (s : Shared) : Bool := xlAt hd.view_39 [] s && recOk (RowW.records hd.row) s
theorem hd.ran (w : World) (os : OsState) : (hd.run (hd.go hd.pw w) (hd.okay 11 (some (.ref 6))) 2790 (hd.s0 w os) (topStub hd.pw)).map (fun s => ((staticsOk (importedModules hd.pw.main.body) (boot_heap w.params) s.abs.heap && namesBound hd.pw s.abs.heap && gensDone s.abs && laidKept (boot_heap w.params) s.abs.heap), hd.hook.obs s.abs)) = some (true, hd.hook.val w) := by kernel_rfl
theorem hd.look (w : World) (os : OsState) : (hd.run (hd.go hd.pw w) (hd.okay 11 (some (.ref 6))) 2790 (hd.s0 w os) (topStub hd.pw)).map (fun s => PySem.W.Fast.tw4187177175401517315 hd.view_39 hd.loose (importedModules hd.pw.main.body) hd.xt true s.abs) = some (openGood hd.view_39 hd.loose) := by kernel_rfl
end Mine
end HdR
section HdE
set_option maxHeartbeats 0
namespace Mine
-- the law's text, look by look
theorem hd.said1 : (sreFenced hd.pw.main && ((moduleNames hd.pw.main.body).isEmpty || lookedIntoSs (moduleNames hd.pw.main.body) hd.pw.main.body)) = true := by kernel_rfl
theorem hd.said2 : namesResolve hd.pw = true := by rw [PySem.W.Fast.te8377067652309620493]; kernel_rfl
theorem hd.said3 : (hd.pw.boundNames.all fun n => !worldNames.contains n) = true := by kernel_rfl
theorem hd.said4 : noRoadLSs { strict := !(importedModules hd.pw.main.body).all cThrough.contains, foot := none, bare := (["vars", "dir", "locals"] : List Str).filter (readsOut hd.pw hd.pw.main.body) } hd.pw.main.body = true := by rw [PySem.W.Fast.te8326940854005059898, PySem.W.Fast.te13343964577679436407]; kernel_rfl
theorem hd.said5 : (namesMeet hd.pw hd.pw.main.body fun _ n => attrL n) = true := by rw [PySem.W.Fast.te17868728402115742887]; kernel_rfl
theorem hd.said6 : looksOpen hd.pw = true := by unfold looksOpen; rw [hd.said1, hd.said2, hd.said3, hd.said4, hd.said5]; rfl
theorem hd.said7 : PySem.Challenge.rw_xm0954_01.row.partSaid = true := by unfold OpenRow.partSaid; rw [show looksOpen PySem.Challenge.rw_xm0954_01.row.prog = true from hd.said6]; kernel_rfl
theorem hd.said8 : PySem.Challenge.rw_xm0954_01.row.wellSaid = true := by unfold OpenRow.wellSaid; rw [hd.said7]; kernel_rfl
theorem hd.said : PySem.Challenge.rw_xm0954_01.wellSaid = true := by
  unfold OpenLaw.wellSaid
  rw [hd.said8, PySem.W.Fast.te8179353310426384613, PySem.W.Fast.te8326940854005059898, PySem.W.Fast.te9558739934217749035, PySem.W.Fast.te16286561074155671207]
  kernel_rfl
theorem hd.lefts : LeftO hd.pw hd.view_39 hd.loose (fun s => xlAt hd.view_39 [] s && recOk (RowW.records hd.row) s) hd.hook.obs hd.hook.val 2790 := hd.left hd.open_ hd.size hd.ran hd.look
noncomputable def hd.recD : Stmt → DefRec
  | .FunctionDef n a b _ _ _ sc _ _ p => ⟨n, a, b, sc, p⟩
  | _ => ⟨default, default, [], default, default⟩
noncomputable def hd.lawD : DefRec := hd.recD (hd.at 55 hd.pw.main.body)
theorem hd.top (walk : WalkO hd.view_39 hd.loose (XL hd.view_39 []) hd.hook.says hd.row hd.lawD [] fun f vs => PySem.call f vs) : PySem.Challenge.rw_xm0954_01.Holds := by
  refine holds_law hd.said fun said => ?_
  refine holds_open (q := hd.view_39) (loose := hd.loose) (XP := XL hd.view_39 []) (YP := hd.hook.says) (d := hd.lawD) (kwd := []) hd.lefts hd.hook.of hd.hook.keeps (fun s e => xl_of s (Bool.and_eq_true_iff.mp e).1) XL.keeps
    (by kernel_rfl) (by kernel_rfl) (by kernel_rfl) (fun s e => recFacts_of (Bool.and_eq_true_iff.mp e).2) (by kernel_rfl) said (by decide +kernel) ⟨by kernel_rfl, by kernel_rfl, by kernel_rfl, by kernel_rfl, by kernel_rfl, by decide +kernel⟩ ?hw walk
  case hw => w_witness2
end Mine
end HdE
section D1
namespace Mine

inductive PV where
  | none | bool (b : Bool) | int (i : Int) | str (s : Str)
  | tup (l : List PV) | obj (i : Nat) | inst (C : Addr) (i : Nat) | glo (v : Value)

inductive PO where
  | list (l : List PV) | attrs (l : List (Str × PV)) | dict (l : List (Str × PV)) | liter (i n : Nat) | riter (x left : Int) | any

noncomputable abbrev Led := List (Addr × Obj)
noncomputable abbrev tupObj (vs : List Value) : Obj := { cls := .type "tuple", data := .seq vs.toArray }

section rel
variable (K : Frag) (I : Led) (D : List Addr)
mutual
inductive VR : Value → PV → Prop
  | none : VR .none .none
  | bool (b : Bool) : VR (.bool b) (.bool b)
  | int (i : Int) (t : Tok) : VR (.int i t) (.int i)
  | str (s : Str) (t : Tok) : VR (.str s t) (.str s)
  | tup {a : Addr} {vs : List Value} {l : List PV} : (a, tupObj vs) ∈ I → VRs vs l → VR (.ref a) (.tup l)
  | ktup {a : Addr} {vs : List Value} {l : List PV} {od : Option Addr} {n : Nat} {sl : Array (Option Value)} :
      K.lookup a = some ⟨.type "tuple", od, .seq vs.toArray n, sl⟩ → VRs vs l → VR (.ref a) (.tup l)
  | obj {a : Addr} {i : Nat} : D[i]? = some a → VR (.ref a) (.obj i)
  | inst {x d C : Addr} {i : Nat} : (x, instObj C d) ∈ I → D[i]? = some d → VR (.ref x) (.inst C i)
  | glo (v : Value) : VR v (.glo v)
inductive VRs : List Value → List PV → Prop
  | nil : VRs [] []
  | cons {v : Value} {p : PV} {vs : List Value} {ps : List PV} : VR v p → VRs vs ps → VRs (v :: vs) (p :: ps)
end
end rel

structure Ext (D : List Addr) (I : Led) (D' : List Addr) (I' : Led) : Prop where
  d : ∀ (i : Nat) (a : Addr), D[i]? = some a → D'[i]? = some a
  i : ∀ p ∈ I, p ∈ I'
theorem Ext.refl {D : List Addr} {I : Led} : Ext D I D I := ⟨fun _ _ h => h, fun _ h => h⟩
theorem Ext.trans {D D' D'' : List Addr} {I I' I'' : Led} (a : Ext D I D' I') (b : Ext D' I' D'' I'') : Ext D I D'' I'' := ⟨fun i x h => b.d i x (a.d i x h), fun p h => b.i p (a.i p h)⟩

section
variable {K : Frag} {I I' : Led} {D D' : List Addr}
mutual
theorem VR.mono (x : Ext D I D' I') : ∀ {v : Value} {p : PV}, VR K I D v p → VR K I' D' v p
  | _, _, .none => .none
  | _, _, .bool b => .bool b
  | _, _, .int i t => .int i t
  | _, _, .str s t => .str s t
  | _, _, .tup h r => .tup (x.i _ h) (VRs.mono x r)
  | _, _, .ktup h r => .ktup h (VRs.mono x r)
  | _, _, .obj h => .obj (x.d _ _ h)
  | _, _, .inst h d => .inst (x.i _ h) (x.d _ _ d)
  | _, _, .glo v => .glo v
theorem VRs.mono (x : Ext D I D' I') : ∀ {vs : List Value} {ps : List PV}, VRs K I D vs ps → VRs K I' D' vs ps
  | _, _, .nil => .nil
  | _, _, .cons h r => .cons (VR.mono x h) (VRs.mono x r)
end
theorem VRs.length : ∀ {vs : List Value} {ps : List PV}, VRs K I D vs ps → vs.length = ps.length
  | _, _, .nil => rfl
  | _, _, .cons _ r => by simp [VRs.length r]
theorem VRs.append : ∀ {vs vs' : List Value} {ps ps' : List PV}, VRs K I D vs ps → VRs K I D vs' ps' → VRs K I D (vs ++ vs') (ps ++ ps')
  | _, _, _, _, .nil, h => h
  | _, _, _, _, .cons a r, h => .cons a (VRs.append r h)
theorem VRs.get : ∀ {vs : List Value} {ps : List PV}, VRs K I D vs ps → ∀ {i : Nat} {p : PV}, ps[i]? = some p → ∃ v, vs[i]? = some v ∧ VR K I D v p
  | _, _, .cons (v := v) h _, 0, _, e => ⟨v, rfl, by cases e; exact h⟩
  | _, _, .cons _ r, i + 1, p, e => by simpa using VRs.get r (i := i) (p := p) (by simpa using e)
theorem VRs.take : ∀ {vs : List Value} {ps : List PV} (n : Nat), VRs K I D vs ps → VRs K I D (vs.take n) (ps.take n)
  | _, _, 0, _ => by simp only [List.take_zero]; exact .nil
  | _, _, _ + 1, .nil => .nil
  | _, _, n + 1, .cons h r => .cons h (VRs.take n r)
theorem VRs.drop : ∀ {vs : List Value} {ps : List PV} (n : Nat), VRs K I D vs ps → VRs K I D (vs.drop n) (ps.drop n)
  | _, _, 0, h => h
  | _, _, _ + 1, .nil => .nil
  | _, _, n + 1, .cons _ r => by simpa using VRs.drop n r
theorem VRs.reverse {vs : List Value} {ps : List PV} (h : VRs K I D vs ps) : VRs K I D vs.reverse ps.reverse := by
  induction vs generalizing ps with
  | nil => cases h; exact .nil
  | cons v vs ih =>
    cases h with
    | cons a r => rw [List.reverse_cons, List.reverse_cons]; exact VRs.append (ih r) (.cons a .nil)
end

/-- attribute dicts: the entries in order -/
inductive ERs (K : Frag) (I : Led) (D : List Addr) (P : Params) : List DictEntry → List (Str × PV) → Prop
  | nil : ERs K I D P [] []
  | cons {k : Str} {t : Tok} {v : Value} {p : PV} {es : List DictEntry} {l : List (Str × PV)} : VR K I D v p → ERs K I D P es l → ERs K I D P (⟨PyData.keyHash P k, .str k t, v⟩ :: es) ((k, p) :: l)
inductive KRs (K : Frag) (I : Led) (D : List Addr) : List (Str × Value) → List (Str × PV) → Prop
  | nil : KRs K I D [] []
  | cons {k : Str} {v : Value} {p : PV} {vs : List (Str × Value)} {l : List (Str × PV)} : VR K I D v p → KRs K I D vs l → KRs K I D ((k, v) :: vs) ((k, p) :: l)
section
variable {K : Frag} {I I' : Led} {D D' : List Addr} {P : Params}
theorem ERs.mono (x : Ext D I D' I') {es : List DictEntry} {l : List (Str × PV)} (h : ERs K I D P es l) : ERs K I' D' P es l := by
  induction h with
  | nil => exact .nil
  | cons a _ ih => exact .cons (a.mono x) ih
theorem KRs.mono (x : Ext D I D' I') {vs : List (Str × Value)} {l : List (Str × PV)} (h : KRs K I D vs l) : KRs K I' D' vs l := by
  induction h with
  | nil => exact .nil
  | cons a _ ih => exact .cons (a.mono x) ih
end

inductive OR (prog : Program) (w : World) (K : Frag) (I : Led) (D : List Addr) : Addr → Obj → PO → Prop
  | list {a : Addr} {vs : List Value} {l : List PV} {n : Nat} : VRs K I D vs l → OR prog w K I D a (listOf vs.toArray n) (.list l)
  | attrs {a : Addr} {es : List DictEntry} {l : List (Str × PV)} {n : Nat} : ERs K I D w.params es l → OR prog w K I D a (dictOf es n) (.attrs l)
  | dict {a : Addr} {o : Obj} {vs : List (Str × Value)} {l : List (Str × PV)} : (a == sysModules) = false → o.IsDictOf (PySem.strKind prog w) vs → KRs K I D vs l → OR prog w K I D a o (.dict l)
  | liter {a l : Addr} {o : Obj} {i n : Nat} : D[i]? = some l → o.cls = .type "list_iterator" → o.data = .fields #[.ref l, .int n 0] → OR prog w K I D a o (.liter i n)
  | riter {a : Addr} {x left : Int} : OR prog w K I D a { cls := .type "range_iterator", dict := Option.none, data := .fields #[rawInt x, rawInt left, rawInt 1], slots := #[] } (.riter x left)
  | any {a : Addr} {o : Obj} : OR prog w K I D a o .any
theorem OR.mono {prog : Program} {w : World} {K : Frag} {I I' : Led} {D D' : List Addr} (x : Ext D I D' I') {a : Addr} {o : Obj} {p : PO} (h : OR prog w K I D a o p) : OR prog w K I' D' a o p := by
  cases h with
  | list r => exact .list (r.mono x)
  | attrs r => exact .attrs (r.mono x)
  | dict a b r => exact .dict a b (r.mono x)
  | liter a b c => exact .liter (x.d _ _ a) b c
  | riter => exact .riter
  | any => exact .any

inductive ORs (prog : Program) (w : World) (K : Frag) (I : Led) (D : List Addr) : List Addr → List Obj → List PO → Prop
  | nil : ORs prog w K I D [] [] []
  | cons {a : Addr} {o : Obj} {p : PO} {as : List Addr} {os : List Obj} {ps : List PO} : OR prog w K I D a o p → ORs prog w K I D as os ps → ORs prog w K I D (a :: as) (o :: os) (p :: ps)
section
variable {prog : Program} {w : World} {K : Frag} {I I' : Led} {D D' : List Addr}
theorem ORs.mono (x : Ext D I D' I') {as : List Addr} {os : List Obj} {ps : List PO} (h : ORs prog w K I D as os ps) : ORs prog w K I' D' as os ps := by
  induction h with
  | nil => exact .nil
  | cons a _ ih => exact .cons (a.mono x) ih
theorem ORs.snoc {as : List Addr} {os : List Obj} {ps : List PO} (h : ORs prog w K I D as os ps) {a : Addr} {o : Obj} {p : PO} (q : OR prog w K I D a o p) : ORs prog w K I D (as ++ [a]) (os ++ [o]) (ps ++ [p]) := by
  induction h with
  | nil => exact .cons q .nil
  | cons a _ ih => exact .cons a ih
theorem ORs.len {as : List Addr} {os : List Obj} {ps : List PO} (h : ORs prog w K I D as os ps) : as.length = os.length ∧ as.length = ps.length := by
  induction h with
  | nil => exact ⟨rfl, rfl⟩
  | cons _ _ ih => simp [ih.1.symm, ih.2.symm]
theorem ORs.get {as : List Addr} {os : List Obj} {ps : List PO} (h : ORs prog w K I D as os ps) {i : Nat} {p : PO} (e : ps[i]? = some p) : ∃ a o, as[i]? = some a ∧ os[i]? = some o ∧ OR prog w K I D a o p := by
  induction h generalizing i with
  | nil => cases e
  | cons q _ ih =>
    cases i with
    | zero => cases e; exact ⟨_, _, rfl, rfl, q⟩
    | succ i => simpa using ih (by simpa using e)
theorem ORs.set {as : List Addr} {os : List Obj} {ps : List PO} (h : ORs prog w K I D as os ps) {i : Nat} {a : Addr} {o : Obj} {p : PO} (ea : as[i]? = some a) (q : OR prog w K I D a o p) : ORs prog w K I D as (os.set i o) (ps.set i p) := by
  induction h generalizing i with
  | nil => exact .nil
  | cons r t ih =>
    cases i with
    | zero => cases ea; exact .cons q t
    | succ i => exact .cons r (ih (by simpa using ea))
end

/-- the state of the call: the store's objects and the things that never change -/
noncomputable def St (prog : Program) (w : World) (K : Frag) (h₀ : Heap) (L : Addr) (h : Heap) (σ : List PO) (D : List Addr) (I : Led) : Prop :=
  ∃ os, News h₀ L h (D.zip os ++ I) ∧ ORs prog w K I D D os σ ∧ D.Nodup ∧ ∀ p ∈ I, p.1 ∉ D

theorem mem_zip_get {D : List Addr} {os : List Obj} {i : Nat} {a : Addr} {o : Obj} (h1 : D[i]? = some a) (h2 : os[i]? = some o) : (a, o) ∈ D.zip os := by
  refine List.mem_of_getElem? (i := i) ?_
  rw [List.getElem?_zip_eq_some]
  exact ⟨h1, h2⟩
theorem upd_zip {d : Addr} {o o' : Obj} {I : Led} : ∀ {D : List Addr} {os : List Obj} {i : Nat}, D[i]? = some d → os[i]? = some o → D.Nodup → (∀ p ∈ I, p.1 ≠ d) → Upd d o o' (D.zip os ++ I) (D.zip (os.set i o') ++ I)
  | a :: D, x :: os, 0, h1, h2, nd, hi => by
    cases h1; cases h2
    refine .head fun p hp => ?_
    rcases List.mem_append.mp hp with q | q
    · intro e
      have := (List.of_mem_zip q).1
      rw [e] at this
      exact (List.nodup_cons.mp nd).1 this
    · exact hi p q
  | a :: D, x :: os, i + 1, h1, h2, nd, hi => by
    refine .tail (p := (a, x)) ?_ (upd_zip (by simpa using h1) (by simpa using h2) (List.nodup_cons.mp nd).2 hi)
    intro e
    have hm : d ∈ D := List.mem_of_getElem? (i := i) (by simpa using h1)
    have e' : a = d := e
    exact (List.nodup_cons.mp nd).1 (e' ▸ hm)
  | [], _, _, h1, _, _, _ => by cases h1
  | _ :: _, [], _, _, h2, _, _ => by cases h2

section
variable {prog : Program} {w : World} {K : Frag} {h₀ h h' : Heap} {L : Addr} {σ : List PO} {D : List Addr} {I : Led}
theorem St.lt (S : St prog w K h₀ L h σ D I) {a : Addr} (m : a ∈ D) : a < h.objs.size := by
  obtain ⟨os, N, O, _, _⟩ := S
  obtain ⟨i, hi, e⟩ := List.getElem_of_mem m
  have h1 : D[i]? = some a := by rw [List.getElem?_eq_getElem hi, e]
  have hl := O.len.1
  have h2 : os[i]? = some os[i] := by rw [List.getElem?_eq_getElem (by omega)]
  exact Heap.lt_size (N _ (List.mem_append_left _ (mem_zip_get h1 h2))).1
theorem St.newsI (S : St prog w K h₀ L h σ D I) : News h₀ L h I := by
  obtain ⟨os, N, _⟩ := S
  exact fun p hp => N p (List.mem_append_right _ hp)
theorem St.len (S : St prog w K h₀ L h σ D I) : D.length = σ.length := by
  obtain ⟨os, N, O, _⟩ := S; exact O.len.2
/-- an object that never changes is laid -/
theorem St.imm (S : St prog w K h₀ L h σ D I) {q : Addr} {o : Obj} (hq : q = h.objs.size) (N' : ∀ os, News h₀ L h (D.zip os ++ I) → News h₀ L h' ((q, o) :: (D.zip os ++ I))) : St prog w K h₀ L h' σ D ((q, o) :: I) := by
  have lt := fun a (m : a ∈ D) => S.lt m
  obtain ⟨os, N, O, nd, ap⟩ := S
  refine ⟨os, fun p hp => N' os N p ?_, O.mono ⟨fun _ _ h => h, fun _ h => .tail _ h⟩, nd, fun p hp => ?_⟩
  · rcases List.mem_append.mp hp with m | m
    · exact .tail _ (List.mem_append_left _ m)
    · rcases List.mem_cons.mp m with rfl | m
      · exact .head _
      · exact .tail _ (List.mem_append_right _ m)
  · rcases List.mem_cons.mp hp with rfl | m
    · intro hm
      have := lt _ hm
      subst hq
      exact absurd this (Nat.lt_irrefl _)
    · exact ap p m
theorem Ext.imm {x : Addr × Obj} : Ext D I D (x :: I) := ⟨fun _ _ h => h, fun _ h => .tail _ h⟩
theorem Ext.snoc {x : Addr} : Ext D I (D ++ [x]) I := ⟨fun i a h => by
  have hi : i < D.length := by
    by_cases q : i < D.length
    · exact q
    · rw [List.getElem?_eq_none (by omega)] at h; cases h
  rw [List.getElem?_append_left hi]; exact h, fun _ h => h⟩
theorem get_snoc {x : Addr} : (D ++ [x])[D.length]? = some x := by simp
/-- a new object of the store -/
theorem St.more (S : St prog w K h₀ L h σ D I) {q : Addr} {o : Obj} {po : PO} (hq : ∀ a ∈ D, a ≠ q) (hi : ∀ p ∈ I, p.1 ≠ q) (hO : OR prog w K I (D ++ [q]) q o po)
    (N' : ∀ os, News h₀ L h (D.zip os ++ I) → News h₀ L h' ((q, o) :: (D.zip os ++ I))) : St prog w K h₀ L h' (σ ++ [po]) (D ++ [q]) I := by
  obtain ⟨os, N, O, nd, ap⟩ := S
  refine ⟨os ++ [o], fun p hp => N' os N p ?_, (O.mono Ext.snoc).snoc hO, ?_, fun p hp hm => ?_⟩
  · rcases List.mem_append.mp hp with m | m
    · rw [List.zip_append O.len.1] at m
      rcases List.mem_append.mp m with m | m
      · exact .tail _ (List.mem_append_left _ m)
      · rw [List.mem_singleton.mp m]; exact .head _
    · exact .tail _ (List.mem_append_right _ m)
  · rw [List.nodup_append]
    refine ⟨nd, by simp, fun a ha b hb => ?_⟩
    rw [List.mem_singleton.mp hb]; exact hq a ha
  · rcases List.mem_append.mp hm with m | m
    · exact ap p hp m
    · exact hi p hp (List.mem_singleton.mp m)
/-- one object of the store is turned -/
theorem St.upd (S : St prog w K h₀ L h σ D I) {i : Nat} {po : PO} (e : σ[i]? = some po) : ∃ a o os, D[i]? = some a ∧ os[i]? = some o ∧ h.get? a = some o ∧ a ≠ L ∧ OR prog w K I D a o po ∧ News h₀ L h (D.zip os ++ I) ∧
    ∀ o' po', OR prog w K I D a o' po' → Upd a o o' (D.zip os ++ I) (D.zip (os.set i o') ++ I) ∧ ∀ h', News h₀ L h' (D.zip (os.set i o') ++ I) → St prog w K h₀ L h' (σ.set i po') D I := by
  obtain ⟨os, N, O, nd, ap⟩ := S
  obtain ⟨a, o, ea, eo, q⟩ := O.get e
  have hm : (a, o) ∈ D.zip os ++ I := List.mem_append_left _ (mem_zip_get ea eo)
  have ha : a ∈ D := List.mem_of_getElem? ea
  refine ⟨a, o, os, ea, eo, (N _ hm).1, (N _ hm).2.1, q, N, fun o' po' q' => ⟨upd_zip ea eo nd fun p hp e => ap p hp (e ▸ ha), fun h' N' => ⟨os.set i o', N', O.set ea q', nd, ap⟩⟩⟩
end
end Mine
end D1
section D2
namespace Mine

inductive Con where
  | cmp (op : CmpOp) (a b : Int) (r : Bool)
  | ar (op : Operator) (a b r : Int)
  | seq (a b : Str) (r : Bool)
  | le (a b : Nat)
  | pop (l : List PV) (v : PV) (r : List PV)
  | emp (l : List PV) (b : Bool)
  | stl (l : List PV) (ys : List Str)
  | call (k : Nat) (f : Addr) (args : List PV) (σ : List PO) (r : PV) (σ' : List PO)

structure Orc where
  call : Addr → List PV → List PO → Option (PV × List PO)
  cmp : CmpOp → Int → Int → Option Bool
  ar : Operator → Int → Int → Option Int
  seq : Str → Str → Option Bool
  pop : List PV → Option (PV × List PV)
  emp : List PV → Option Bool
  stl : List PV → Option (List Str)
  big : Bool
noncomputable def orc0 : Orc := ⟨fun _ _ _ => none, fun _ _ _ => none, fun _ _ _ => none, fun _ _ => none, fun _ => none, fun _ => none, fun _ => none, false⟩
/-- a size's bound: reckoned, or told -/
noncomputable def chk (O : Orc) (n k : Nat) : Option (List Con) := match O.big with
  | true => some [.le n k]
  | false => match Nat.ble n k with
    | true => some []
    | false => none

structure Fn where
  qual : Str
  params : List Str
  body : List Stmt
  scope : Scope
structure Tab where
  fn : Addr → Option Fn
  ini : Addr → Option Addr
  glob : Str → Option PV
  get : Addr → Str → Bool
  set : Addr → Str → Bool
  meth : Addr → Str → Option Addr
  isi : String → Value → Option Bool

noncomputable def PM (α : Type) : Type := List PO → Option (α × List PO × List Con)
namespace PM
variable {α β : Type}
noncomputable def bind (x : PM α) (f : α → PM β) : PM β := fun σ => match x σ with
  | none => none
  | some (a, σ₁, c₁) => match f a σ₁ with
    | none => none
    | some (b, σ₂, c₂) => some (b, σ₂, c₁ ++ c₂)
noncomputable def ret (a : α) : PM α := fun σ => some (a, σ, [])
noncomputable def fail : PM α := fun _ => none
theorem bind_some {x : PM α} {f : α → PM β} {σ σ₂ : List PO} {b : β} {c : List Con} (h : x.bind f σ = some (b, σ₂, c)) :
    ∃ a σ₁ c₁ c₂, x σ = some (a, σ₁, c₁) ∧ f a σ₁ = some (b, σ₂, c₂) ∧ c = c₁ ++ c₂ := by
  unfold bind at h
  split at h
  · cases h
  · rename_i a σ₁ c₁ h₁
    split at h
    · cases h
    · rename_i b' σ₂' c₂ h₂
      cases h
      exact ⟨a, σ₁, c₁, c₂, h₁, h₂, rfl⟩
theorem ret_some {a b : α} {σ σ₂ : List PO} {c : List Con} (h : ret a σ = some (b, σ₂, c)) : a = b ∧ σ = σ₂ ∧ c = [] := by
  cases h; exact ⟨rfl, rfl, rfl⟩
theorem fail_some {b : α} {σ σ₂ : List PO} {c : List Con} (h : (fail : PM α) σ = some (b, σ₂, c)) : False := by cases h
end PM
open PM

noncomputable def cmpI : CmpOp → Int → Int → Option Bool
  | .Lt, a, b => some (decide (a < b))
  | .LtE, a, b => some (decide (a ≤ b))
  | .Gt, a, b => some (decide (b < a))
  | .Eq, a, b => some (a == b)
  | _, _, _ => none
noncomputable def arI : Operator → Int → Int → Option Int
  | .Add, a, b => some (a + b)
  | .Sub, a, b => some (a - b)
  | .Mult, a, b => match Nat.ble a.natAbs 1000000 with
    | true => some (a * b)
    | false => none
  | .FloorDiv, a, b => match !(b == 0) && Nat.ble b.natAbs 1000000 with
    | true => some (a.fdiv b)
    | false => none
  | .Mod, a, b => match !(b == 0) with
    | true => some (a.fmod b)
    | false => none
  | .Pow, a, b => match decide (0 ≤ b ∧ b ≤ 1000) && Nat.ble a.natAbs 1000000 with
    | true => some (a ^ b.toNat)
    | false => none
  | _, _, _ => none

noncomputable def pcmpI (O : Orc) (op : CmpOp) (a b : Int) : PM PV := fun σ => match O.cmp op a b with
  | some r => some (.bool r, σ, [.cmp op a b r])
  | none => match cmpI op a b with
    | some r => some (.bool r, σ, [])
    | none => none
noncomputable def parI (O : Orc) (op : Operator) (a b : Int) : PM PV := fun σ => match O.ar op a b with
  | some r => some (.int r, σ, [.ar op a b r])
  | none => match arI op a b with
    | some r => some (.int r, σ, [])
    | none => none
noncomputable def pseq (O : Orc) (a b : Str) : PM PV := fun σ => match O.seq a b with
  | some r => some (.bool r, σ, [.seq a b r])
  | none => some (.bool (a == b), σ, [])

noncomputable def strsOf : List PV → Option (List Str)
  | [] => some []
  | .str s :: r => (strsOf r).map (s :: ·)
  | _ => none
noncomputable def noneIs : PV → Option Bool
  | .none => some true
  | .glo _ => none
  | _ => some false
noncomputable def pbin (O : Orc) (op : Operator) (a b : PV) : PM PV := fun σ => match a, b with
  | .int a, .int b => parI O op a b σ
  | .str x, .str y => match op with
    | .Add => match chk O (x.length + y.length) 100000 with
      | some c => some (.str (x ++ y), σ, c)
      | none => none
    | _ => none
  | .obj i, .obj j => match op with
    | .Add => match σ[i]? with
      | some (.list l) => match σ[j]? with
        | some (.list r) => match chk O (l.length + r.length) 1000 with
          | some c => some (.obj σ.length, σ ++ [.list (l ++ r)], c)
          | none => none
        | _ => none
      | _ => none
    | _ => none
  | _, _ => none
noncomputable def pcmp (O : Orc) (op : CmpOp) (a b : PV) : PM PV := fun σ => match op with
  | .Is => match b with
    | .none => match noneIs a with | some r => some (.bool r, σ, []) | none => none
    | _ => none
  | .IsNot => match b with
    | .none => match noneIs a with | some r => some (.bool !r, σ, []) | none => none
    | _ => none
  | .In => match a with
    | .str x => match b with
      | .tup l => match strsOf l with | some ys => some (.bool (ys.any (· == x)), σ, []) | none => none
      | .obj i => match σ[i]? with
        | some (.list l) => match strsOf l with | some ys => some (.bool (ys.any (· == x)), σ, []) | none => none
        | _ => none
      | _ => none
    | _ => none
  | .NotIn => match a with
    | .str x => match b with
      | .tup l => match strsOf l with | some ys => some (.bool !(ys.any (· == x)), σ, []) | none => none
      | _ => none
    | _ => none
  | .Eq => match a, b with
    | .int a, .int b => pcmpI O .Eq a b σ
    | .str x, .str y => pseq O x y σ
    | .tup _, .str _ => some (.bool false, σ, [])
    | .obj i, .obj j => match σ[i]? with
      | some (.list l) => match σ[j]? with
        | some (.list []) => match O.emp l with
          | some b => some (.bool b, σ, [.emp l b])
          | none => some (.bool l.isEmpty, σ, [])
        | _ => none
      | _ => none
    | _, _ => none
  | .NotEq => match a, b with
    | .bool a, .bool b => some (.bool (a != b), σ, [])
    | _, _ => none
  | op => match a, b with
    | .int a, .int b => pcmpI O op a b σ
    | _, _ => none

noncomputable abbrev Loc := List (Str × PV)
noncomputable def nameE (Tb : Tab) (cs : Scope) (ρ : Loc) (x : Str) : Option PV := match x == ("__debug__" : Str) with
  | true => none
  | false => match cs.names.lookup x with
    | some .local => ρ.lookup x
    | some .cell => ρ.lookup x
    | some .free => match x == ("__classdict__" : Str) with | true => none | false => ρ.lookup x
    | some .globalImplicit => Tb.glob x
    | _ => none
noncomputable def pname (Tb : Tab) (cs : Scope) (ρ : Loc) (x : Str) : PM PV := fun σ => match nameE Tb cs ρ x with
  | some v => some (v, σ, [])
  | none => none
noncomputable def pconst (c : Const) : PM PV := fun σ => match c with
  | .none => some (.none, σ, [])
  | .bool b => some (.bool b, σ, [])
  | .int i => some (.int i, σ, [])
  | .str s => some (.str s, σ, [])
  | _ => none

noncomputable def plainBase : PySem.Expr → Bool
  | .Call (.Name _ _) [] [] _ => false
  | _ => true
noncomputable def notComp : PySem.Expr → Bool
  | .ListComp .. => false
  | .SetComp .. => false
  | .DictComp .. => false
  | _ => true
noncomputable def noStar : List PySem.Expr → Bool
  | [] => true
  | .Starred .. :: _ => false
  | _ :: r => noStar r

inductive Slk where
  | cut (lo hi : Option PySem.Expr) | bad | no
noncomputable def slk : PySem.Expr → Slk
  | .Slice lo hi none _ => .cut lo hi
  | .Slice .. => .bad
  | _ => .no
noncomputable def attrOf : PySem.Expr → Option (PySem.Expr × Str × Pos)
  | .Attribute o name apos => some (o, name, apos)
  | _ => none

noncomputable def pnewList (l : List PV) : PM PV := fun σ => match Nat.ble l.length 1000 with
  | true => some (.obj σ.length, σ ++ [.list l], [])
  | false => none
noncomputable def pget (Tb : Tab) (o : PV) (name : Str) : PM PV := fun σ => match o with
  | .inst C i => match Tb.get C name with
    | true => match σ[i]? with
      | some (.attrs l) => match l.lookup name with
        | some (.glo _) => none
        | some v => some (v, σ, [])
        | none => none
      | _ => none
    | false => none
  | _ => none
noncomputable def putA (x : Str) (v : PV) : List (Str × PV) → List (Str × PV)
  | [] => [(x, v)]
  | (y, u) :: r => match y == x with
    | true => (y, v) :: r
    | false => (y, u) :: putA x v r
noncomputable def pset (Tb : Tab) (o : PV) (name : Str) (v : PV) : PM Unit := fun σ => match o with
  | .inst C i => match Tb.set C name with
    | true => match σ[i]? with
      | some (.attrs l) => match Nat.ble l.length 500 with
        | true => some ((), σ.set i (.attrs (putA name v l)), [])
        | false => none
      | _ => none
    | false => none
  | _ => none
noncomputable def psetItem (O : Orc) (o k v : PV) : PM Unit := fun σ => match o with
  | .obj i => match k with
    | .str x => match σ[i]? with
      | some (.dict l) => match chk O l.length 500 with
        | some c => some ((), σ.set i (.dict (putA x v l)), c)
        | none => none
      | _ => none
    | _ => none
  | _ => none
noncomputable def psub (o i : PV) : PM PV := fun σ => match o with
  | .tup l => match i with
    | .int k => match decide (-(2 ^ 63) ≤ k ∧ k < 2 ^ 63) with
      | true => match seqIndex? k l.length with
        | some j => match l[j]? with | some v => some (v, σ, []) | none => none
        | none => none
      | false => none
    | _ => none
  | .obj a => match i with
    | .str x => match σ[a]? with
      | some (.dict l) => match l.lookup x with
        | some v => some (v, σ, [])
        | none => none
      | _ => none
    | .int k => match σ[a]? with
      | some (.list l) => match decide (0 ≤ k ∧ k < 2 ^ 63) with
        | true => match l[k.toNat]? with
          | some v => some (v, σ, [])
          | none => none
        | false => none
      | _ => none
    | _ => none
  | .str s => match i with
    | .int k => match decide (0 ≤ k ∧ k < s.length) && fitsSsize k with
      | true => some (.str (Txt.item s k), σ, [])
      | false => none
    | _ => none
  | _ => none
noncomputable def optI : PV → Option (Option Int)
  | .none => some none
  | .int i => some (some i)
  | _ => none
noncomputable def pslice (O : Orc) (o l h : PV) : PM PV := fun σ => match o with
  | .str s => match optI l with
    | some l => match optI h with
      | some h => match chk O s.length 10000 with
        | some c => some (.str (Txt.slice s l h), σ, c)
        | none => none
      | none => none
    | none => none
  | .obj i => match σ[i]? with
    | some (.list q) => match optI l with
      | some l => match optI h with
        | some h => match chk O q.length 10000 with
          | some c => some (.obj σ.length, σ ++ [.list ((q.drop (kms_lo l q.length)).take (kms_hi h q.length - kms_lo l q.length))], c)
          | none => none
        | none => none
      | none => none
    | _ => none
  | _ => none
noncomputable def plen (O : Orc) (v : PV) : PM PV := fun σ => match v with
  | .str s => match chk O s.length 10000 with
    | some c => some (.int s.length, σ, c)
    | none => none
  | .obj i => match σ[i]? with
    | some (.list l) => match chk O l.length 10000 with
      | some c => some (.int l.length, σ, c)
      | none => none
    | _ => none
  | _ => none
noncomputable def typeName : PV → Option String
  | .str _ => some "str"
  | .int _ => some "int"
  | .none => some "NoneType"
  | _ => none
noncomputable def pisi (Tb : Tab) (v c : PV) : PM PV := fun σ => match c with
  | .glo c => match typeName v with
    | some T => match Tb.isi T c with
      | some b => some (.bool b, σ, [])
      | none => none
    | none => none
  | _ => none
noncomputable def pappend (O : Orc) (i : Nat) (v : PV) : PM PV := fun σ => match σ[i]? with
  | some (.list l) => match chk O l.length 10000 with
    | some c => some (.none, σ.set i (.list (l ++ [v])), c)
    | none => none
  | _ => none
noncomputable def ppop (O : Orc) (i : Nat) : PM PV := fun σ => match σ[i]? with
  | some (.list l) => match O.pop l with
    | some (v, r) => some (v, σ.set i (.list r), [.pop l v r])
    | none => match l.getLast? with
    | some v => match Nat.ble l.length 10000 with
      | true => some (v, σ.set i (.list l.dropLast), [])
      | false => none
    | none => none
  | _ => none
noncomputable def pdictGet (i : Nat) (k d : PV) : PM PV := fun σ => match k with
  | .str x => match σ[i]? with
    | some (.dict l) => some ((l.lookup x).getD d, σ, [])
    | _ => none
  | _ => none
noncomputable def papB (Tb : Tab) (O : Orc) (b : String) (vs : List PV) : PM PV := fun σ => match b == "len" with
  | true => match vs with | [v] => plen O v σ | _ => none
  | false => match b == "isinstance" with
    | true => match vs with | [v, c] => pisi Tb v c σ | _ => none
    | false => match b == "abs" with
      | true => match vs with | [.int i] => some (.int (if i < 0 then -i else i), σ, []) | _ => none
      | false => none
noncomputable def papT (O : Orc) (t : String) (vs : List PV) : PM PV := fun σ => match t == "int" with
  | true => match vs with | [.int i] => some (.int i, σ, []) | _ => none
  | false => match t == "str" with
    | true => match vs with
      | [.int i] => match chk O i.natAbs 10000 with
        | some c => some (.str (toString i : String), σ, c)
        | none => none
      | _ => none
    | false => none
noncomputable def pstrM (O : Orc) (s : Str) (name : Str) (vs : List PV) : PM PV := fun σ => match name == ("count" : Str) with
  | true => match vs with | [.str t] => some (.int (Txt.count s t), σ, []) | _ => none
  | false => match name == ("split" : Str) with
    | true => match vs with
      | [.str t] => match !(t.length == 0) with
        | true => match chk O s.length 10000 with
          | some c => some (.obj σ.length, σ ++ [.list ((Txt.split s t).map .str)], c)
          | none => none
        | false => none
      | _ => none
    | false => match name == ("join" : Str) with
      | true => match vs with
        | [.obj i] => match σ[i]? with
          | some (.list l) => match Nat.ble s.length 6 with
            | true => match O.stl l with
              | some ys => some (.str (Txt.join s ys), σ, [.stl l ys])
              | none => none
            | false => none
          | _ => none
        | _ => none
      | false => none

inductive Fl where
  | next | brk | ret (v : PV)
noncomputable def setL (x : Str) (v : PV) : Loc → Loc := putA x v

noncomputable def isLocal (cs : Scope) (x : Str) : Bool := match cs.names.lookup x with | some .local => true | _ => false
noncomputable def namesOf (cs : Scope) : List PySem.Expr → Option (List Str)
  | [] => some []
  | .Name x _ :: r => match isLocal cs x with
    | true => (namesOf cs r).map (x :: ·)
    | false => none
  | _ => none
noncomputable def setAll : List Str → List PV → Loc → Loc
  | x :: xs, v :: vs, ρ => setAll xs vs (setL x v ρ)
  | _, _, ρ => ρ
noncomputable def env0 (cs : Scope) : Env := { scope := cs, locals := 0, globals := 0, cells := [] }

/-- the nine parts of the evaluator -/
structure Evs where
  e : Nat → Scope → Loc → PySem.Expr → PM PV
  o : Nat → Scope → Loc → Option PySem.Expr → PM PV
  l : Nat → Scope → Loc → List PySem.Expr → PM (List PV)
  t : Nat → Scope → Loc → PySem.Expr → PM Bool
  m : Nat → Scope → Loc → PV → Str → List PySem.Expr → PM PV
  a : Nat → Scope → Loc → PV → List PySem.Expr → PM PV
  c : Nat → Addr → List PV → PM PV
  s : Nat → Scope → Loc → Stmt → PM (Fl × Loc)
  ss : Nat → Scope → Loc → List Stmt → PM (Fl × Loc)
section
variable (Tb : Tab) (O : Orc)
noncomputable def peF (Tb : Tab) (O : Orc) (R : Evs) (k : Nat) (cs : Scope) (ρ : Loc) (e : PySem.Expr) : PM PV := fun σ => match e with
    | .Constant c _ _ => pconst c σ
    | .Name x _ => pname Tb cs ρ x σ
    | .BinOp l op r _ => ((R.e k cs ρ l).bind fun a => (R.e k cs ρ r).bind fun b => pbin O op a b) σ
    | .UnaryOp .USub x _ => ((R.e k cs ρ x).bind fun a => fun σ => match a with
      | .int i => some (.int (-i), σ, [])
      | _ => none) σ
    | .IfExp t b o _ => ((R.t k cs ρ t).bind fun c => match c with
      | true => R.e k cs ρ b
      | false => R.e k cs ρ o) σ
    | .Compare l [op] [r] _ => match behindInMarks op r with
      | true => none
      | false => ((R.e k cs ρ l).bind fun a => (R.e k cs ρ r).bind fun b => pcmp O op a b) σ
    | .Tuple es _ _ => ((R.l k cs ρ es).bind fun vs => fun σ => match Nat.ble vs.length 1000 with
      | true => some (.tup vs, σ, [])
      | false => none) σ
    | .List es _ => ((R.l k cs ρ es).bind pnewList) σ
    | .Dict [] [] _ => some (.obj σ.length, σ ++ [.dict []], [])
    | .Dict [some (.Constant (.str x) _ _)] [.Constant (.str y) _ _] _ => some (.obj σ.length, σ ++ [.dict [(x, .str y)]], [])
    | .Attribute v name _ => match plainBase v with
      | true => ((R.e k cs ρ v).bind fun o => pget Tb o name) σ
      | false => none
    | .Subscript v i _ => match slk i with
      | .cut lo hi => ((R.e k cs ρ v).bind fun o => (R.o k cs ρ lo).bind fun l => (R.o k cs ρ hi).bind fun h => pslice O o l h) σ
      | .bad => none
      | .no => ((R.e k cs ρ v).bind fun o => (R.e k cs ρ i).bind fun j => psub o j) σ
    | .Call f args [] pos => match attrOf f with
      | some (o, name, apos) => match plainBase o && noStar args && Nat.ble args.length 20 && apos.endLine == pos.line with
        | true => ((R.e k cs ρ o).bind fun ov => R.m k cs ρ ov name args) σ
        | false => none
      | none => match noStar args && Nat.ble args.length 20 with
        | true => ((R.e k cs ρ f).bind fun fv => R.a k cs ρ fv args) σ
        | false => none
    | _ => none
noncomputable def poF (Tb : Tab) (O : Orc) (R : Evs) (k : Nat) (cs : Scope) (ρ : Loc) (e : Option PySem.Expr) : PM PV := match e with
    | none => ret .none
    | some e => R.e k cs ρ e
noncomputable def pesF (Tb : Tab) (O : Orc) (R : Evs) (k : Nat) (cs : Scope) (ρ : Loc) (es : List PySem.Expr) : PM (List PV) := match es with
    | [] => ret []
    | e :: r => match noStar [e] with
      | true => (R.e k cs ρ e).bind fun v => (R.l k cs ρ r).bind fun vs => ret (v :: vs)
      | false => fail
noncomputable def ptF (Tb : Tab) (O : Orc) (R : Evs) (k : Nat) (cs : Scope) (ρ : Loc) (e : PySem.Expr) : PM Bool := match e with
    | .UnaryOp .Not x _ => (R.t k cs ρ x).bind fun b => ret !b
    | .BoolOp .And [] _ => ret true
    | .BoolOp .And (x :: r) p => (R.t k cs ρ x).bind fun b => match b with
      | true => R.t k cs ρ (.BoolOp .And r p)
      | false => ret false
    | .BoolOp .Or [] _ => ret false
    | .BoolOp .Or (x :: r) p => (R.t k cs ρ x).bind fun b => match b with
      | true => ret true
      | false => R.t k cs ρ (.BoolOp .Or r p)
    | .IfExp .. => fail
    | .Compare l [op] [r] _ => match behindInMarks op r with
      | true => fail
      | false => (R.e k cs ρ l).bind fun a => (R.e k cs ρ r).bind fun b => (pcmp O op a b).bind fun v => match v with
        | .bool b => ret b
        | _ => fail
    | .Compare .. => fail
    | e => (R.e k cs ρ e).bind fun v => match v with
      | .bool b => ret b
      | _ => fail
noncomputable def pmethF (Tb : Tab) (O : Orc) (R : Evs) (k : Nat) (cs : Scope) (ρ : Loc) (ov : PV) (name : Str) (args : List PySem.Expr) : PM PV := fun σ => match ov with
    | .inst C i => match Tb.meth C name with
      | some f => match σ[i]? with
        | some (.attrs l) => match l.lookup name with
          | none => ((R.l k cs ρ args).bind fun vs => R.c k f (.inst C i :: vs)) σ
          | some _ => none
        | _ => none
      | none => none
    | .obj i => match σ[i]? with
      | some (.list _) => match name == ("append" : Str) with
        | true => ((R.l k cs ρ args).bind fun vs => fun σ => match vs with | [v] => pappend O i v σ | _ => none) σ
        | false => match name == ("pop" : Str) with
          | true => ((R.l k cs ρ args).bind fun vs => fun σ => match vs with | [] => ppop O i σ | _ => none) σ
          | false => none
      | some (.dict _) => match name == ("get" : Str) with
        | true => ((R.l k cs ρ args).bind fun vs => fun σ => match vs with | [a, d] => pdictGet i a d σ | _ => none) σ
        | false => none
      | _ => none
    | .str s => ((R.l k cs ρ args).bind fun vs => pstrM O s name vs) σ
    | _ => none
noncomputable def pappF (Tb : Tab) (O : Orc) (R : Evs) (k : Nat) (cs : Scope) (ρ : Loc) (fv : PV) (args : List PySem.Expr) : PM PV := match fv with
    | .glo (.ref f) => match Tb.fn f with
      | some _ => (R.l k cs ρ args).bind fun vs => R.c k f vs
      | none => match Tb.ini f with
        | some fI => (R.l k cs ρ args).bind fun vs => match k with
          | 0 => fail
          | j + 1 => fun σ => match R.c j fI (.inst f σ.length :: vs) (σ ++ [.attrs []]) with
            | some (.none, σ', c) => some (.inst f σ.length, σ', c)
            | _ => none
        | none => fail
    | .glo (.builtin b) => (R.l k cs ρ args).bind fun vs => papB Tb O b vs
    | .glo (.type t) => (R.l k cs ρ args).bind fun vs => papT O t vs
    | _ => fail
noncomputable def pcallF (Tb : Tab) (O : Orc) (R : Evs) (k : Nat) (f : Addr) (vs : List PV) : PM PV := match k with
    | 0 => fail
    | j + 1 => fun σ => match O.call f vs σ with
      | some (r, σ') => some (r, σ', [.call (j + 1) f vs σ r σ'])
      | none => match Tb.fn f with
        | some F => match Nat.beq vs.length F.params.length with
          | true => match R.ss j F.scope (F.params.zip vs) F.body σ with
            | some ((.ret v, _), σ', c) => some (v, σ', c)
            | some ((.next, _), σ', c) => some (.none, σ', c)
            | _ => none
          | false => none
        | none => none
noncomputable def pxF (Tb : Tab) (O : Orc) (R : Evs) (k : Nat) (cs : Scope) (ρ : Loc) (st : Stmt) : PM (Fl × Loc) := fun σ => match st with
    | .Expr e _ => match notComp e with
      | true => ((R.e k cs ρ e).bind fun _ => ret (.next, ρ)) σ
      | false => none
    | .Assign [.Name x _] e _ => match notComp e && isLocal cs x with
      | true => ((R.e k cs ρ e).bind fun v => ret (.next, setL x v ρ)) σ
      | false => none
    | .Assign [.Attribute o a _] e _ => match notComp e with
      | true => ((R.e k cs ρ e).bind fun v => (R.e k cs ρ o).bind fun ov => (pset Tb ov a v).bind fun _ => ret (.next, ρ)) σ
      | false => none
    | .Assign [.Subscript o i _] e _ => match notComp e with
      | true => ((R.e k cs ρ e).bind fun v => (R.e k cs ρ o).bind fun ov => (R.e k cs ρ i).bind fun iv => (psetItem O ov iv v).bind fun _ => ret (.next, ρ)) σ
      | false => none
    | .Assign [.Tuple ts kk tp] e _ => match notComp e with
      | true => ((R.e k cs ρ e).bind fun v => fun σ => match v with
        | .tup l => match namesOf cs ts with
          | some xs => match Nat.beq xs.length l.length with
            | true => match swappedStores [.Tuple ts kk tp] e (env0 cs) with
              | .pure none => some ((.next, setAll xs l ρ), σ, [])
              | .pure (some ys) => match decide (ys = xs) with
                | true => some ((.next, setAll xs.reverse l.reverse ρ), σ, [])
                | false => none
              | _ => none
            | false => none
          | none => none
        | _ => none) σ
      | false => none
    | .AugAssign (.Attribute o a _) op e _ => ((R.e k cs ρ o).bind fun ov => (pget Tb ov a).bind fun old => (R.e k cs ρ e).bind fun v => fun σ => match op with
      | .Add => match old with
        | .int x => match v with
          | .int y => ((pset Tb ov a (.int (x + y))).bind fun _ => ret (.next, ρ)) σ
          | _ => none
        | _ => none
      | _ => none) σ
    | .If t b o _ => ((R.t k cs ρ t).bind fun c => match c with
      | true => R.ss k cs ρ b
      | false => R.ss k cs ρ o) σ
    | .Return (some e) _ => ((R.e k cs ρ e).bind fun v => ret (.ret v, ρ)) σ
    | .Return none _ => some ((.ret .none, ρ), σ, [])
    | .Break _ => some ((.brk, ρ), σ, [])
    | _ => none
noncomputable def pxsF (Tb : Tab) (O : Orc) (R : Evs) (k : Nat) (cs : Scope) (ρ : Loc) (ss : List Stmt) : PM (Fl × Loc) := match ss with
    | [] => ret (.next, ρ)
    | s :: r => (R.s k cs ρ s).bind fun q => match q with
      | (.next, ρ') => R.ss k cs ρ' r
      | (f, ρ') => ret (f, ρ')
noncomputable def evs (n : Nat) : Evs := @Nat.rec (fun _ => Evs) ⟨fun _ _ _ _ => fail, fun _ _ _ _ => fail, fun _ _ _ _ => fail, fun _ _ _ _ => fail, fun _ _ _ _ _ _ => fail, fun _ _ _ _ _ => fail, fun _ _ _ => fail, fun _ _ _ _ => fail, fun _ _ _ _ => fail⟩ (fun _ R => ⟨peF Tb O R, poF Tb O R, pesF Tb O R, ptF Tb O R, pmethF Tb O R, pappF Tb O R, pcallF Tb O R, pxF Tb O R, pxsF Tb O R⟩) n
noncomputable def pe (n : Nat) : Nat → Scope → Loc → PySem.Expr → PM PV := (evs Tb O n).e
noncomputable def po (n : Nat) : Nat → Scope → Loc → Option PySem.Expr → PM PV := (evs Tb O n).o
noncomputable def pes (n : Nat) : Nat → Scope → Loc → List PySem.Expr → PM (List PV) := (evs Tb O n).l
noncomputable def pt (n : Nat) : Nat → Scope → Loc → PySem.Expr → PM Bool := (evs Tb O n).t
noncomputable def pmeth (n : Nat) : Nat → Scope → Loc → PV → Str → List PySem.Expr → PM PV := (evs Tb O n).m
noncomputable def papp (n : Nat) : Nat → Scope → Loc → PV → List PySem.Expr → PM PV := (evs Tb O n).a
noncomputable def pcall (n : Nat) : Nat → Addr → List PV → PM PV := (evs Tb O n).c
noncomputable def px (n : Nat) : Nat → Scope → Loc → Stmt → PM (Fl × Loc) := (evs Tb O n).s
noncomputable def pxs (n : Nat) : Nat → Scope → Loc → List Stmt → PM (Fl × Loc) := (evs Tb O n).ss
end
section
variable {Tb : Tab} {O : Orc} {n : Nat}
theorem pe_succ : pe Tb O (n + 1) = peF Tb O (evs Tb O n) := rfl
theorem po_succ : po Tb O (n + 1) = poF Tb O (evs Tb O n) := rfl
theorem pes_succ : pes Tb O (n + 1) = pesF Tb O (evs Tb O n) := rfl
theorem pt_succ : pt Tb O (n + 1) = ptF Tb O (evs Tb O n) := rfl
theorem pmeth_succ : pmeth Tb O (n + 1) = pmethF Tb O (evs Tb O n) := rfl
theorem papp_succ : papp Tb O (n + 1) = pappF Tb O (evs Tb O n) := rfl
theorem pcall_succ : pcall Tb O (n + 1) = pcallF Tb O (evs Tb O n) := rfl
theorem px_succ : px Tb O (n + 1) = pxF Tb O (evs Tb O n) := rfl
theorem pxs_succ : pxs Tb O (n + 1) = pxsF Tb O (evs Tb O n) := rfl
theorem no_some {α : Type} {x : α} {P : Prop} (h : none = some x) : P := nomatch h
end
end Mine
end D2
section D3
namespace Mine
open PM

structure Wd where
  prog : Program
  w : World
  K : Frag
  p : Program
  loose : List Str
  mean : ExcName → Option Value
  mg : Str → Option Value
  mb : Str → Option Value
  Tb : Tab
noncomputable abbrev Wd.M (W : Wd) : Model := model W.prog W.w
noncomputable abbrev Wd.S (W : Wd) (h₀ : Heap) (L : Addr) (h : Heap) (σ : List PO) (D : List Addr) (I : Led) : Prop := St W.prog W.w W.K h₀ L h σ D I
noncomputable abbrev Wd.V (W : Wd) (I : Led) (D : List Addr) (v : Value) (p : PV) : Prop := VR W.K I D v p
noncomputable abbrev ff : Value → Shared → Prop := fun _ _ => False

structure Gd (W : Wd) (h₀ : Heap) : Prop where
  X : W.K.In h₀
  T : Top W.p W.loose W.mean W.mg W.mb h₀

structure FnOk (K : Frag) (f : Addr) (F : Fn) : Prop where
  ex : ∃ (name : Str) (params : Arguments) (dV kV doc pm : Value) (an : Option Addr) (cdv ct oc : Value) (od : Option Addr) (osl : Array (Option Value)),
    K.lookup f = some ⟨oc, od, .func (fnOf name F.qual params F.body F.scope dV kV doc pm an cdv ct), osl⟩ ∧ codeIn K cdv F.qual = true ∧
    ∀ vs : List Value, vs.length = F.params.length → bindArgs (fnOf name F.qual params F.body F.scope dV kV doc pm an cdv ct) ⟨vs, []⟩ = pure (F.params.zip vs)
  loc : ∀ x ∈ F.params, F.scope.names.lookup x = some .local
  nd : F.params.Nodup
  co : F.scope.isCoroutine = false
  gen : F.scope.isGenerator = false
  kd : F.scope.kind = .function
  cell : ∀ x ∈ F.scope.names, x.2 ≠ .cell
  keep : keepIn K (.ref f) = true

structure TabOk (W : Wd) : Prop where
  glob : ∀ x pv, W.Tb.glob x = some pv → (∃ v, nsIn W.K mainGlobals x = some (some v) ∧ ∀ I D, VR W.K I D v pv) ∨ (∃ v, nsIn W.K mainGlobals x = some none ∧ bootBuiltins x = some v ∧ x ≠ "__name__" ∧ pv = .glo v)
  fn : ∀ f F, W.Tb.fn f = some F → FnOk W.K f F
  ini : ∀ C fI, W.Tb.ini C = some fI → makesIn W.K C = true ∧ findIn W.K (.ref C) "__init__" = some (some (.ref fI)) ∧ isFn W.K (.ref fI) = true ∧ keepIn W.K (.ref C) = true
  get : ∀ C n, W.Tb.get C n = true → plainGet W.K C n = true ∧ hasDictIn W.K C = true ∧ ∃ attr, findIn W.K (.ref C) n = some attr ∧ noGet W.K attr = true
  set : ∀ C n, W.Tb.set C n = true → findIn W.K (.ref C) "__setattr__" = some (some (.builtin "object.__setattr__")) ∧ plainOver W.K C = true ∧ takerIn W.K C n = some none ∧ hasDictIn W.K C = true
  meth : ∀ C n f, W.Tb.meth C n = some f → plainGet W.K C n = true ∧ findIn W.K (.ref C) n = some (some (.ref f)) ∧ isFn W.K (.ref f) = true ∧ keepIn W.K (.ref f) = true
  isi : ∀ T c b, W.Tb.isi T c = some b → kitOne W.K (.type T) c = some b

section
variable {W : Wd} {h₀ h h' : Heap} {L : Addr} {σ : List PO} {D : List Addr} {I : Led} {os : List Obj}
theorem St.imm_of (O : ORs W.prog W.w W.K I D D os σ) (nd : D.Nodup) (ap : ∀ p ∈ I, p.1 ∉ D) {q : Addr} {o : Obj} (hq : ∀ a ∈ D, a ≠ q) (N' : News h₀ L h' ((q, o) :: (D.zip os ++ I))) : W.S h₀ L h' σ D ((q, o) :: I) := by
  refine ⟨os, fun p hp => N' p ?_, O.mono Ext.imm, nd, fun p hp hm => ?_⟩
  · rcases List.mem_append.mp hp with m | m
    · exact .tail _ (List.mem_append_left _ m)
    · rcases List.mem_cons.mp m with rfl | m
      · exact .head _
      · exact .tail _ (List.mem_append_right _ m)
  · rcases List.mem_cons.mp hp with rfl | m
    · exact hq _ hm rfl
    · exact ap p m hm
theorem St.more_of (O : ORs W.prog W.w W.K I D D os σ) (nd : D.Nodup) (ap : ∀ p ∈ I, p.1 ∉ D) {q : Addr} {o : Obj} {po : PO} (hq : ∀ a ∈ D, a ≠ q) (hi : ∀ p ∈ I, p.1 ≠ q) (hO : OR W.prog W.w W.K I (D ++ [q]) q o po)
    (N' : News h₀ L h' ((q, o) :: (D.zip os ++ I))) : W.S h₀ L h' (σ ++ [po]) (D ++ [q]) I := by
  refine ⟨os ++ [o], fun p hp => N' p ?_, (O.mono Ext.snoc).snoc hO, ?_, fun p hp hm => ?_⟩
  · rcases List.mem_append.mp hp with m | m
    · rw [List.zip_append O.len.1] at m
      rcases List.mem_append.mp m with m | m
      · exact .tail _ (List.mem_append_left _ m)
      · rw [List.mem_singleton.mp m]; exact .head _
    · exact .tail _ (List.mem_append_right _ m)
  · rw [List.nodup_append]
    refine ⟨nd, by simp, fun a ha b hb => ?_⟩
    rw [List.mem_singleton.mp hb]; exact hq a ha
  · rcases List.mem_append.mp hm with m | m
    · exact ap p hp m
    · exact hi p hp (List.mem_singleton.mp m)
theorem St.off (O : ORs W.prog W.w W.K I D D os σ) {q : Addr} (lt : ∀ p ∈ D.zip os ++ I, p.1 < q) : (∀ a ∈ D, a ≠ q) ∧ ∀ p ∈ I, p.1 ≠ q := by
  refine ⟨fun a ha => ?_, fun p hp => Nat.ne_of_lt (lt p (List.mem_append_right _ hp))⟩
  obtain ⟨i, hi, e⟩ := List.getElem_of_mem ha
  have h1 : D[i]? = some a := by rw [List.getElem?_eq_getElem hi, e]
  have hl := O.len.1
  have h2 : os[i]? = some os[i] := by rw [List.getElem?_eq_getElem (by omega)]
  exact Nat.ne_of_lt (lt _ (List.mem_append_left _ (mem_zip_get h1 h2)))
theorem St.ext (S : W.S h₀ L h σ D I) (x : Heap.ExtBut h.objs.size h h') : W.S h₀ L h' σ D I := by
  obtain ⟨os, N, r⟩ := S
  exact ⟨os, fun p hp => ⟨x _ _ (Nat.ne_of_lt (Heap.lt_size (N p hp).1)) (N p hp).1, (N p hp).2⟩, r⟩
end

/-- what stands behind a step that hands back a value -/
noncomputable def Ret (W : Wd) (h₀ : Heap) (L : Addr) (m : Str → Option Value) (D : List Addr) (I : Led) (s : Shared) (σ : List PO) (v : PV) (Q : Value → Shared → Prop) : Prop :=
  ∀ val h' tk' D' I', Fr h₀ L h' m → W.S h₀ L h' σ D' I' → Ext D I D' I' → W.V I' D' val v → Q val { s with heap := h', toks := tk' }

structure Cx (W : Wd) (k : Nat) (A : Around) (env : Env) (h₀ : Heap) (L : Addr) : Prop where
  B : ∃ A₀ base outer, Below A₀ base outer h₀ ∧ A.frames = some (env :: outer)
  ef : env.frame = some L
  ek : env.scope.kind = .function
  dep : A.depth + k < recursionLimit

noncomputable def COK (W : Wd) (k : Nat) (f : Addr) (args : List PV) (σ : List PO) (r : PV) (σ' : List PO) : Prop :=
  ∀ (A : Around) (env : Env) (h₀ : Heap) (L : Addr) (m : Str → Option Value) (D : List Addr) (I : Led) (s : Shared) (vals : List Value),
    Gd W h₀ → A.handled = none → A.units + 10 * k + 10 < cLine → Cx W k A env h₀ L → Fr h₀ L s.heap m → W.S h₀ L s.heap σ D I → VRs W.K I D vals args →
    ∀ R : Result → Shared → Prop, Ret W h₀ L m D I s σ' r (fun v s' => R (.ok (.ret v)) s') → codeAny W.M A (.call (.ref f) ⟨vals, []⟩) R s

noncomputable def Con.holds (W : Wd) : Con → Prop
  | .cmp op a b r => cmpI op a b = some r
  | .ar op a b r => arI op a b = some r
  | .seq a b r => (a == b) = r
  | .le a b => a ≤ b
  | .pop l v r => l = r ++ [v] ∧ l.length ≤ 10000
  | .emp l b => l.isEmpty = b
  | .stl l ys => strsOf l = some ys ∧ (∀ a ∈ ys, a.length ≤ 10) ∧ ys.length ≤ 10000
  | .call k f args σ r σ' => COK W k f args σ r σ'

section
variable {W : Wd} {A : Around} {h₀ : Heap} {L : Addr} {m : Str → Option Value} {s : Shared} {σ σ' : List PO} {D : List Addr} {I : Led} {Q : Value → Shared → Prop} {E : Value → Shared → Prop}

theorem Ret.here {v : PV} {val : Value} (hR : Ret W h₀ L m D I s σ v Q) (F : Fr h₀ L s.heap m) (S : W.S h₀ L s.heap σ D I) (V : W.V I D val v) (tk : Nat) : Q val { s with toks := tk } :=
  hR val s.heap tk D I F S Ext.refl V
theorem Ret.at {v : PV} {val : Value} (hR : Ret W h₀ L m D I s σ v Q) (F : Fr h₀ L s.heap m) (S : W.S h₀ L s.heap σ D I) (V : W.V I D val v) : Q val s :=
  hR val s.heap s.toks D I F S Ext.refl V
/-- later -/
theorem Ret.later {v : PV} {h' : Heap} {tk' : Nat} {D' : List Addr} {I' : Led} (hR : Ret W h₀ L m D I s σ v Q) (x : Ext D I D' I') : Ret W h₀ L m D' I' { s with heap := h', toks := tk' } σ v Q :=
  fun val h'' tk'' D'' I'' F S y V => hR val h'' tk'' D'' I'' F S (x.trans y) V
theorem Ret.same {v : PV} {tk' : Nat} (hR : Ret W h₀ L m D I s σ v Q) : Ret W h₀ L m D I { s with toks := tk' } σ v Q :=
  fun val h'' tk'' D'' I'' F S y V => hR val h'' tk'' D'' I'' F S y V

theorem isTup_of {a : Addr} {l : List PV} (X : W.K.In s.heap) (S : W.S h₀ L s.heap σ D I) (V : W.V I D (.ref a) (.tup l)) : ∃ vs, IsTup s.heap a (List.toArray vs) ∧ VRs W.K I D vs l ∧
    ∃ d n sl, s.heap.get? a = some ⟨.type "tuple", d, .seq (List.toArray vs) n, sl⟩ := by
  cases V with
  | tup h r => exact ⟨_, ⟨_, (S.newsI _ h).1, rfl, _, rfl⟩, r, _, _, _, (S.newsI _ h).1⟩
  | ktup h r => exact ⟨_, ⟨_, X _ _ h, rfl, _, rfl⟩, r, _, _, _, X _ _ h⟩

theorem cmpI_ok {op : CmpOp} {a b : Int} {t u : Tok} {r : Bool} (h : cmpI op a b = some r) (hQ : Q (.bool r) s) : wpAny W.M A (compareOp op (.int a t) (.int b u)) Q E s := by
  cases op <;> simp only [cmpI, Option.some.injEq, reduceCtorEq] at h <;> subst h
  · exact eq_int hQ
  · exact lt_int hQ
  · exact le_int hQ
  · exact gt_int hQ
theorem bits_ok {a : Int} (h : Nat.ble a.natAbs 1000000 = true) : Builtin.Int.intBits a ≤ 64 := by
  have h := Nat.le_of_ble_eq_true h
  unfold Builtin.Int.intBits
  split
  · omega
  · have : a.natAbs.log2 < 20 := (Nat.log2_lt (by rename_i q; intro z; apply q; simpa using z)).mpr (by omega)
    omega
theorem arI_ok {op : Operator} {a b : Int} {t u : Tok} {r : Int} (h : arI op a b = some r) (hQ : ∀ t tk, Q (.int r t) { s with toks := tk }) : wpAny W.M A (binaryOp op (.int a t) (.int b u)) Q E s := by
  unfold arI at h
  split at h
  · cases h; exact add_int (hQ _ _)
  · cases h; exact sub_int (hQ _ _)
  · split at h
    · rename_i hb
      cases h; exact mul_int (hQ _ _) (IntMulOk.of_left (bits_ok hb))
    · cases h
  · split at h
    · rename_i hb
      cases h
      obtain ⟨h1, h2⟩ := Bool.and_eq_true_iff.mp hb
      exact floordiv_int (by simpa using h1) (hQ _ _) (.inl (PyProof.noPylong_small (by have := Nat.le_of_ble_eq_true h2; omega)))
    · cases h
  · split at h
    · rename_i hb
      cases h
      exact mod_int' (by simpa using hb) (hQ _ _)
    · cases h
  · split at h
    · rename_i hb
      cases h
      obtain ⟨h1, h2⟩ := Bool.and_eq_true_iff.mp hb
      have h1 := of_decide_eq_true h1
      have h3 := bits_ok h2
      refine pow_int h1.1 ?_ (hQ _ _)
      have : (Builtin.Int.intBits a : Int) * b ≤ 64 * 1000 := Int.mul_le_mul (by omega) h1.2 h1.1 (by omega)
      omega
    · cases h
  · cases h

theorem pcmpI_ok {O : Orc} {op : CmpOp} {a b : Int} {t u : Tok} {r : PV} {C : List Con} (h : pcmpI O op a b σ = some (r, σ', C)) (hc : ∀ c ∈ C, c.holds W)
    (F : Fr h₀ L s.heap m) (S : W.S h₀ L s.heap σ D I) (hR : Ret W h₀ L m D I s σ' r Q) : wpAny W.M A (compareOp op (.int a t) (.int b u)) Q E s := by
  unfold pcmpI at h
  split at h
  · cases h
    exact cmpI_ok (hc _ (.head _)) (hR.at F S (.bool _))
  · split at h
    · rename_i e
      cases h
      exact cmpI_ok e (hR.at F S (.bool _))
    · cases h
theorem parI_ok {O : Orc} {op : Operator} {a b : Int} {t u : Tok} {r : PV} {C : List Con} (h : parI O op a b σ = some (r, σ', C)) (hc : ∀ c ∈ C, c.holds W)
    (F : Fr h₀ L s.heap m) (S : W.S h₀ L s.heap σ D I) (hR : Ret W h₀ L m D I s σ' r Q) : wpAny W.M A (binaryOp op (.int a t) (.int b u)) Q E s := by
  unfold parI at h
  split at h
  · cases h
    exact arI_ok (hc _ (.head _)) (fun t tk => hR.here F S (.int _ t) tk)
  · split at h
    · rename_i e
      cases h
      exact arI_ok e (fun t tk => hR.here F S (.int _ t) tk)
    · cases h
theorem pseq_ok {O : Orc} {a b : Str} {t u : Tok} {r : PV} {C : List Con} (h : pseq O a b σ = some (r, σ', C)) (hc : ∀ c ∈ C, c.holds W)
    (F : Fr h₀ L s.heap m) (S : W.S h₀ L s.heap σ D I) (hR : Ret W h₀ L m D I s σ' r Q) : wpAny W.M A (compareOp .Eq (.str a t) (.str b u)) Q E s := by
  unfold pseq at h
  split at h
  · cases h
    have e : (a == b) = _ := hc _ (.head _)
    exact eq_str (by rw [e]; exact hR.at F S (.bool _))
  · cases h
    exact eq_str (hR.at F S (.bool _))

theorem strsOf_ok : ∀ {l : List PV} {vs : List Value} {ys : List Str}, strsOf l = some ys → VRs W.K I D vs l → StrsAre vs ys
  | [], _, ys, h, .nil => by cases h; exact .nil
  | .str x :: r, _, ys, h, .cons v vr => by
    unfold strsOf at h
    cases q : strsOf r with
    | none => rw [q] at h; cases h
    | some zs =>
      rw [q] at h
      cases h
      cases v
      exact .cons _ _ (strsOf_ok q vr)
  | .none :: _, _, _, h, _ => by cases h
  | .bool _ :: _, _, _, h, _ => by cases h
  | .int _ :: _, _, _, h, _ => by cases h
  | .tup _ :: _, _, _, h, _ => by cases h
  | .obj _ :: _, _, _, h, _ => by cases h
  | .inst _ _ :: _, _, _, h, _ => by cases h
  | .glo _ :: _, _, _, h, _ => by cases h

theorem isNone_ok {a : PV} {va : Value} {r : Bool} (h : noneIs a = some r) (V : W.V I D va a) (hQ : Q (.bool r) s) : wpAny W.M A (compareOp .Is va .none) Q E s := by
  cases V <;> simp only [noneIs, Option.some.injEq, reduceCtorEq] at h <;> subst h
  · exact is_none_none hQ
  · exact is_bool_none hQ
  · exact is_int_none hQ
  · exact is_str_none hQ
  all_goals exact is_ref_none hQ
theorem isNotNone_ok {a : PV} {va : Value} {r : Bool} (h : noneIs a = some r) (V : W.V I D va a) (hQ : Q (.bool !r) s) : wpAny W.M A (compareOp .IsNot va .none) Q E s := by
  cases V <;> simp only [noneIs, Option.some.injEq, reduceCtorEq] at h <;> subst h
  · exact isnot_none_none hQ
  · exact isnot_bool_none hQ
  · exact isnot_int_none hQ
  · exact isnot_str_none hQ
  all_goals exact isnot_ref_none hQ

theorem chk_ok {O : Orc} {n k : Nat} {C : List Con} (h : chk O n k = some C) (hc : ∀ c ∈ C, c.holds W) : n ≤ k := by
  unfold chk at h
  split at h
  · cases h; exact hc _ (.head _)
  · split at h
    · rename_i e; exact Nat.le_of_ble_eq_true e
    · cases h
theorem le_line {n k : Nat} (h : n ≤ k) (hk : k ≤ sizeLine := by decide) : n ≤ sizeLine := Nat.le_trans h hk
theorem le_big {n k : Nat} (h : Nat.ble n k = true) (hk : k ≤ sizeLine := by decide) : n ≤ sizeLine := Nat.le_trans (Nat.le_of_ble_eq_true h) hk

theorem list_at {i : Nat} {vo : Value} {l : List PV} (S : W.S h₀ L s.heap σ D I) (Vo : W.V I D vo (.obj i)) (el : σ[i]? = some (.list l)) :
    ∃ d vs n os, vo = .ref d ∧ s.heap.get? d = some (listOf (List.toArray vs) n) ∧ VRs W.K I D vs l ∧ D[i]? = some d ∧ os[i]? = some (listOf (List.toArray vs) n) ∧ News h₀ L s.heap (D.zip os ++ I) ∧
    ∀ o' po', OR W.prog W.w W.K I D d o' po' → Upd d (listOf (List.toArray vs) n) o' (D.zip os ++ I) (D.zip (os.set i o') ++ I) ∧ ∀ h', News h₀ L h' (D.zip (os.set i o') ++ I) → W.S h₀ L h' (σ.set i po') D I := by
  cases Vo with
  | obj hd =>
    obtain ⟨a, o, os, ea, eo, ho, hL, q, N, up⟩ := S.upd el
    rw [hd] at ea; cases ea
    cases q with
    | list r => exact ⟨_, _, _, os, rfl, ho, r, hd, eo, N, up⟩

theorem pbin_ok {O : Orc} {op : Operator} {a b r : PV} {va vb : Value} {C : List Con} (h : pbin O op a b σ = some (r, σ', C)) (hc : ∀ c ∈ C, c.holds W) (Va : W.V I D va a) (Vb : W.V I D vb b)
    (F : Fr h₀ L s.heap m) (S : W.S h₀ L s.heap σ D I) (hR : Ret W h₀ L m D I s σ' r Q) : wpAny W.M A (binaryOp op va vb) Q E s := by
  unfold pbin at h
  split at h
  · cases Va; cases Vb; exact parI_ok h hc F S hR
  · cases Va; cases Vb
    split at h
    · split at h
      · rename_i hb
        cases h
        exact add_str (fun t tk => hR.here F S (.str _ t) tk) (le_line (chk_ok hb hc))
      · cases h
    · cases h
  · split at h
    · split at h
      · rename_i l el
        split at h
        · rename_i q er
          split at h
          · rename_i hb
            cases h
            obtain ⟨d, vs, n, _, rfl, ho, rr, hd, _, _, _⟩ := list_at S Va el
            obtain ⟨d2, ws, n2, _, rfl, ho2, rr2, hd2, _, _, _⟩ := list_at S Vb er
            obtain ⟨os, N, Os, nd, ap⟩ := S
            refine add_lists F N ⟨_, ho, rfl, _, rfl⟩ ⟨_, ho2, rfl, _, rfl⟩ (fun h' F' N' => ?_) (by have := chk_ok hb hc; rw [rr.length, rr2.length]; exact le_line this)
            have off := St.off (W := W) Os (q := s.heap.objs.size) fun p hp => Heap.lt_size (N p hp).1
            exact hR (.ref s.heap.objs.size) h' s.toks (D ++ [s.heap.objs.size]) I F' (St.more_of Os nd ap off.1 off.2 (.list (n := 0) ((rr.append rr2).mono Ext.snoc)) N') Ext.snoc (.obj (by rw [← Os.len.2]; exact get_snoc))
          · cases h
        · cases h
      · cases h
    · cases h
  · cases h

theorem pcmp_ok {O : Orc} {op : CmpOp} {a b r : PV} {va vb : Value} {C : List Con} (h : pcmp O op a b σ = some (r, σ', C)) (hc : ∀ c ∈ C, c.holds W) (Va : W.V I D va a) (Vb : W.V I D vb b)
    (X : W.K.In s.heap) (hu : A.units < cLine) (F : Fr h₀ L s.heap m) (S : W.S h₀ L s.heap σ D I) (hR : Ret W h₀ L m D I s σ' r Q) : wpAny W.M A (compareOp op va vb) Q E s := by
  unfold pcmp at h
  split at h
  · split at h
    · cases Vb
      split at h
      · rename_i e; cases h; exact isNone_ok e Va (hR.at F S (.bool _))
      · cases h
    · cases h
  · split at h
    · cases Vb
      split at h
      · rename_i e; cases h; exact isNotNone_ok e Va (hR.at F S (.bool _))
      · cases h
    · cases h
  · split at h
    · cases Va
      split at h
      · split at h
        · rename_i e
          cases h
          obtain ⟨a, rfl⟩ : ∃ a, vb = .ref a := by cases Vb <;> exact ⟨_, rfl⟩
          obtain ⟨vs, ht, hv, _⟩ := isTup_of X S Vb
          exact in_tuple_strs ht (by simpa using strsOf_ok e hv) (hR.at F S (.bool _))
        · cases h
      · split at h
        · rename_i el
          split at h
          · rename_i e
            cases h
            cases Vb with
            | obj hd =>
              obtain ⟨a, o, os, ea, eo, ho, hL, q, N, _⟩ := S.upd el
              rw [hd] at ea; cases ea
              cases q with
              | list hv => exact in_list_strs ⟨_, ho, rfl, _, rfl⟩ (strsOf_ok e hv) (hR.at F S (.bool _))
          · cases h
        · cases h
      · cases h
    · cases h
  · split at h
    · cases Va
      split at h
      · split at h
        · rename_i e
          cases h
          obtain ⟨a, rfl⟩ : ∃ a, vb = .ref a := by cases Vb <;> exact ⟨_, rfl⟩
          obtain ⟨vs, ht, hv, _⟩ := isTup_of X S Vb
          exact notin_tuple_strs ht (by simpa using strsOf_ok e hv) (hR.at F S (.bool _))
        · cases h
      · cases h
    · cases h
  · split at h
    · cases Va; cases Vb; exact pcmpI_ok h hc F S hR
    · cases Va; cases Vb; exact pseq_ok h hc F S hR
    · cases h
      obtain ⟨a, rfl⟩ : ∃ a, va = .ref a := by cases Va <;> exact ⟨_, rfl⟩
      obtain ⟨vs, _, hv, d, n, sl, ho⟩ := isTup_of X S Va
      cases Vb
      exact EqBoolInt.of_rc (SeqAt.RcAt.tuple_str _ _ (items := List.toArray vs) ⟨_, ho, rfl, _, rfl⟩ hu) (hR.at F S (.bool _))
    · split at h
      · rename_i l el
        split at h
        · rename_i er
          have key : ∃ b, r = .bool b ∧ σ' = σ ∧ l.isEmpty = b := by
            split at h
            · cases h; exact ⟨_, rfl, rfl, hc _ (.head _)⟩
            · cases h; exact ⟨_, rfl, rfl, rfl⟩
          obtain ⟨b, rfl, rfl, hb⟩ := key
          obtain ⟨d, vs, n, _, rfl, ho, rr, hd, _, _, _⟩ := list_at S Va el
          obtain ⟨d2, ws, n2, _, rfl, ho2, rr2, hd2, _, _, _⟩ := list_at S Vb er
          cases rr2
          cases rr with
          | nil =>
            cases hb
            exact EqBoolInt.of_rc (SeqAt.RcAt.lists (e := fun _ => true) (items := List.toArray []) (items2 := List.toArray []) ⟨_, ho, rfl, _, rfl⟩ ⟨_, ho2, rfl, _, rfl⟩ rfl hu fun j h1 => absurd h1 (by simp)) (hR.at F S (.bool _))
          | cons v1 v2 =>
            cases hb
            exact EqBoolInt.of_rc (SeqAt.RcAt.lists_lengths ⟨_, ho, rfl, _, rfl⟩ ⟨_, ho2, rfl, _, rfl⟩ (by simp) hu) (hR.at F S (.bool _))
        · cases h
      · cases h
    · cases h
  · split at h
    · cases h
      cases Va; cases Vb
      exact ne_bool (hR.at F S (.bool _))
    · cases h
  · split at h
    · cases Va; cases Vb; exact pcmpI_ok h hc F S hR
    · cases h
end
end Mine
end D3
section D4
namespace Mine
open PM

section
variable {W : Wd} {A : Around} {h₀ : Heap} {L : Addr} {m : Str → Option Value} {s : Shared} {σ σ' : List PO} {D : List Addr} {I : Led} {Q : Value → Shared → Prop} {E : Value → Shared → Prop}

theorem str_beq_comm (a b : Str) : (a == b) = (b == a) := by
  rw [Bool.eq_iff_iff, beq_iff_eq, beq_iff_eq]; exact eq_comm

theorem ers_get {P : Params} {name : Str} : ∀ {es : List DictEntry} {l : List (Str × PV)}, ERs W.K I D P es l → es.any (·.refKey) = false ∧ es.length = l.length ∧
    (∀ pv, l.lookup name = some pv → ∃ v, getL name es = some (some v) ∧ W.V I D v pv) ∧ (l.lookup name = none → getL name es = some none)
  | _, _, .nil => ⟨rfl, rfl, fun _ h => (by cases h), fun _ => rfl⟩
  | _, _, .cons (k := k) (t := t) (v := v) (p := p) (es := es) (l := l) h r => by
    obtain ⟨a, b, c, d⟩ := ers_get (P := P) (name := name) r
    have hk : (Value.str k t).isStr name = (name == k) := str_beq_comm k name
    refine ⟨by simp only [List.any_cons, a, Bool.or_false]; rfl, by simp [b], fun pv e => ?_, fun e => ?_⟩
    · rw [List.lookup_cons] at e
      unfold getL
      rw [List.find?_cons]
      cases q : name == k with
      | true =>
        rw [q] at e
        cases e
        simp only [hk, q]
        exact ⟨v, rfl, h⟩
      | false =>
        rw [q] at e
        simp only [hk, q]
        obtain ⟨v', e', w'⟩ := c pv e
        refine ⟨v', ?_, w'⟩
        unfold getL at e'
        rw [a] at e'
        rw [List.any_cons, a]
        exact e'
    · rw [List.lookup_cons] at e
      unfold getL
      rw [List.find?_cons]
      cases q : name == k with
      | true => rw [q] at e; cases e
      | false =>
        rw [q] at e
        simp only [hk, q]
        have e' := d e
        unfold getL at e'
        rw [a] at e'
        rw [List.any_cons, a]
        exact e'
theorem ers_put {P : Params} {name : Str} {t : Tok} {v : Value} {pv : PV} (V : W.V I D v pv) : ∀ {es : List DictEntry} {l : List (Str × PV)}, ERs W.K I D P es l →
    ERs W.K I D P (putL name (PyData.keyHash P name) (.str name t) v es) (putA name pv l) ∧ (putL name (PyData.keyHash P name) (.str name t) v es).length ≤ es.length + 1
  | _, _, .nil => ⟨.cons V .nil, Nat.le_refl _⟩
  | _, _, .cons (k := k) (t := u) (v := x) (p := p) (es := es) (l := l) h r => by
    have ih := ers_put (P := P) (name := name) (t := t) V r
    have hk : (Value.str k u).isStr name = (k == name) := rfl
    unfold putL putA
    cases q : k == name with
    | true => simp only [hk, q, if_true]; exact ⟨.cons V r, by simp⟩
    | false => simp only [hk, q, Bool.false_eq_true, if_false]; exact ⟨.cons h ih.1, by simp only [List.length_cons]; omega⟩

/-- an object of the store, with its place -/
theorem inst_at {C : Addr} {i : Nat} {vo : Value} {l : List (Str × PV)} (S : W.S h₀ L s.heap σ D I) (Vo : W.V I D vo (.inst C i)) (el : σ[i]? = some (.attrs l)) :
    ∃ x d es n os, vo = .ref x ∧ PySem.W.InstAt s.heap x (instObj C d) C (some (dictOf es n)) ∧ ERs W.K I D W.w.params es l ∧ D[i]? = some d ∧ os[i]? = some (dictOf es n) ∧ News h₀ L s.heap (D.zip os ++ I) ∧
    ∀ o' po', OR W.prog W.w W.K I D d o' po' → Upd d (dictOf es n) o' (D.zip os ++ I) (D.zip (os.set i o') ++ I) ∧ ∀ h', News h₀ L h' (D.zip (os.set i o') ++ I) → W.S h₀ L h' (σ.set i po') D I := by
  cases Vo with
  | inst hx hd =>
    rename_i x d
    obtain ⟨a, o, os, ea, eo, ho, hL, q, N, up⟩ := S.upd el
    rw [hd] at ea; cases ea
    cases q with
    | attrs r =>
      exact ⟨x, d, _, _, os, rfl, InstAt.of_news N (List.mem_append_right _ hx) (List.mem_append_left _ (mem_zip_get hd eo)), r, hd, eo, N, up⟩

theorem handed_ok {v : Value} {pv : PV} (V : W.V I D v pv) (hg : ∀ u, pv ≠ .glo u) : handedIn v = true := by
  cases V with
  | glo => exact absurd rfl (hg _)
  | _ => rfl

theorem pget_ok {o r : PV} {name : Str} {C : List Con} {vo : Value} {ex : Bool} (ok : TabOk W) (h : pget W.Tb o name σ = some (r, σ', C)) (Vo : W.V I D vo o) (X : W.K.In h₀)
    (F : Fr h₀ L s.heap m) (S : W.S h₀ L s.heap σ D I) (hR : Ret W h₀ L m D I s σ' r Q) : wpAny W.M A (getAttr vo name ex) Q E s := by
  unfold pget at h
  split at h
  · split at h
    · rename_i hg
      split at h
      · rename_i el
        split at h
        · cases h
        · rename_i hne e
          cases h
          obtain ⟨x, d, es, n, os, rfl, J, r, _⟩ := inst_at S Vo el
          obtain ⟨g1, g2, attr, g3, g4⟩ := ok.get _ _ hg
          obtain ⟨v, e', V⟩ := (ers_get r).2.2.1 _ e
          exact get_own F X J g1 g2 g3 g4 e' (handed_ok V (fun u q => hne u q)) (hR.here F S V _)
        · cases h
      · cases h
    · cases h
  · cases h

theorem pset_ok {o v : PV} {name : Str} {C : List Con} {vo vv : Value} {Q : Unit → Shared → Prop} (ok : TabOk W) (h : pset W.Tb o name v σ = some ((), σ', C)) (Vo : W.V I D vo o) (Vv : W.V I D vv v) (X : W.K.In h₀)
    (F : Fr h₀ L s.heap m) (S : W.S h₀ L s.heap σ D I) (hR : ∀ h' tk', Fr h₀ L h' m → W.S h₀ L h' σ' D I → Q () { s with heap := h', toks := tk' }) : wpAny W.M A (setAttr vo name vv) Q E s := by
  unfold pset at h
  split at h
  · split at h
    · rename_i hg
      split at h
      · rename_i el
        split at h
        · rename_i hb
          cases h
          obtain ⟨x, d, es, n, os, rfl, J, r, hd, eo, N, up⟩ := inst_at S Vo el
          obtain ⟨g1, g2, g3, g4⟩ := ok.set _ _ hg
          obtain ⟨a, b, c, dd⟩ := ers_get (name := name) r
          have put := ers_put (P := W.w.params) (name := name) (t := s.toks + 1) Vv r
          have U := up _ _ (.attrs (n := putN name es n) put.1)
          have hl := Nat.le_of_ble_eq_true hb
          refine set_dict F X N J rfl g1 g2 g3 g4 ?_ rfl U.1 (by have := put.2; omega) fun h' F' N' => hR h' _ F' (U.2 h' N')
          cases q : List.lookup name _ with
          | some pv => obtain ⟨v, e, _⟩ := c pv q; rw [e]; rfl
          | none => rw [dd q]; rfl
        · cases h
      · cases h
    · cases h
  · cases h

theorem krs_get {name : Str} : ∀ {vs : List (Str × Value)} {l : List (Str × PV)}, KRs W.K I D vs l → vs.length = l.length ∧
    (∀ pv, l.lookup name = some pv → ∃ v, valueAt vs name = some v ∧ W.V I D v pv) ∧ (l.lookup name = none → valueAt vs name = none)
  | _, _, .nil => ⟨rfl, fun _ h => (by cases h), fun _ => rfl⟩
  | _, _, .cons (k := k) (v := v) h r => by
    obtain ⟨a, b, c⟩ := krs_get (name := name) r
    refine ⟨by simp [a], fun pv e => ?_, fun e => ?_⟩
    · rw [List.lookup_cons] at e
      unfold valueAt
      rw [List.find?_cons]
      cases q : name == k with
      | true =>
        rw [q] at e; cases e
        simp only [(beq_iff_eq.mp q).symm, decide_true]
        exact ⟨v, rfl, h⟩
      | false =>
        rw [q] at e
        have hne : ¬ k = name := fun z => by rw [z] at q; simp at q
        simp only [hne, decide_false]
        exact b pv e
    · rw [List.lookup_cons] at e
      unfold valueAt
      rw [List.find?_cons]
      cases q : name == k with
      | true => rw [q] at e; cases e
      | false =>
        rw [q] at e
        have hne : ¬ k = name := fun z => by rw [z] at q; simp at q
        simp only [hne, decide_false]
        exact c e
theorem krs_put {name : Str} {v : Value} {pv : PV} (V : W.V I D v pv) {vs : List (Str × Value)} {l : List (Str × PV)} (h : KRs W.K I D vs l) (nd : (vs.map (·.1)).Nodup) : KRs W.K I D (stored vs name v) (putA name pv l) := by
  unfold stored
  induction h with
  | nil => exact .cons V .nil
  | cons a r ih =>
    rename_i k x p vs l
    have ih := ih (List.nodup_cons.mp (by simpa using nd)).2
    unfold putA
    cases q : k == name with
    | true =>
      have e : k = name := beq_iff_eq.mp q
      subst e
      have hn : k ∉ vs.map (·.1) := (List.nodup_cons.mp (by simpa using nd)).1
      have same : vs.map (fun kv => if kv.1 = k then (kv.1, v) else kv) = vs := by
        refine List.map_congr_left (g := id) (fun kv hkv => ?_) |>.trans (List.map_id _)
        have : kv.1 ≠ k := fun z => hn (z ▸ List.mem_map_of_mem hkv)
        simp [this]
      simp only [List.any_cons, decide_true, Bool.true_or, if_true, List.map_cons, same]
      exact .cons V r
    | false =>
      have hne : ¬ k = name := fun z => by rw [z] at q; simp at q
      simp only [List.any_cons, hne, decide_false, Bool.false_or, List.map_cons, if_false]
      split at ih
      · rename_i hy; rw [if_pos hy]; exact .cons a ih
      · rename_i hy; rw [if_neg hy]; exact .cons a ih

theorem dict_at {i : Nat} {vo : Value} {l : List (Str × PV)} (S : W.S h₀ L s.heap σ D I) (Vo : W.V I D vo (.obj i)) (el : σ[i]? = some (.dict l)) :
    ∃ d o vs os, vo = .ref d ∧ (d == sysModules) = false ∧ s.heap.get? d = some o ∧ o.IsDictOf (PySem.strKind W.prog W.w) vs ∧ KRs W.K I D vs l ∧ D[i]? = some d ∧ os[i]? = some o ∧ News h₀ L s.heap (D.zip os ++ I) ∧
    ∀ o' po', OR W.prog W.w W.K I D d o' po' → Upd d o o' (D.zip os ++ I) (D.zip (os.set i o') ++ I) ∧ ∀ h', News h₀ L h' (D.zip (os.set i o') ++ I) → W.S h₀ L h' (σ.set i po') D I := by
  cases Vo with
  | obj hd =>
    obtain ⟨a, o, os, ea, eo, ho, hL, q, N, up⟩ := S.upd el
    rw [hd] at ea; cases ea
    cases q with
    | dict lo hdi r => exact ⟨_, o, _, os, rfl, lo, ho, hdi, r, hd, eo, N, up⟩
theorem psetItem_ok {O : Orc} {o k v : PV} {C : List Con} {vo vk vv : Value} {Q : Unit → Shared → Prop} (h : psetItem O o k v σ = some ((), σ', C)) (hc : ∀ c ∈ C, c.holds W) (Vo : W.V I D vo o) (Vk : W.V I D vk k) (Vv : W.V I D vv v)
    (F : Fr h₀ L s.heap m) (S : W.S h₀ L s.heap σ D I) (hR : ∀ h' tk', Fr h₀ L h' m → W.S h₀ L h' σ' D I → Q () { s with heap := h', toks := tk' }) : wpAny W.M A (setItem vo vk vv) Q E s := by
  unfold psetItem at h
  split at h
  · split at h
    · split at h
      · rename_i el
        split at h
        · rename_i hb
          cases h
          have hb := chk_ok hb hc
          obtain ⟨t, rfl⟩ : ∃ t, vk = .str _ t := by cases Vk; exact ⟨_, rfl⟩
          obtain ⟨d, o, vs, os, rfl, lo, ho, hdi, r, hd, eo, N, up⟩ := dict_at S Vo el
          have hdo : s.heap.DictOf (PySem.strKind W.prog W.w) d vs := Heap.dictOf_iff.mpr ⟨o, ho, hdi⟩
          have nd : (vs.map (·.1)).Nodup := by obtain ⟨_, _, _, _, _, _, nd⟩ := hdi; exact nd
          refine wpAny_setItem_pairs (strKind_is _ _ _ t) hdo (fun h' hm hs => ?_) (by rw [(krs_get (name := Str.empty) r).1]; exact le_line hb)
          obtain ⟨o', ho', hdi'⟩ := Heap.dictOf_iff.mp hm
          have U := up o' _ (.dict lo hdi' (krs_put Vv r nd))
          obtain ⟨pre, post, e1, e2, n1, n2⟩ := U.1.split
          have hmem := N (d, o) (by rw [e1]; simp)
          rw [e1] at N
          exact hR h' _ (F.change hs hmem.2.1 hmem.2.2) (U.2 h' (by rw [e2]; exact N.setAt n1 n2 hs ho'))
        · cases h
      · cases h
    · cases h
  · cases h

theorem subscripted_plain {sl : PySem.Expr} {o i : Value} (h : ∀ a b p, sl ≠ .Slice a b none p) : subscripted sl false o i = operate [o, i] (getItem o i) := by
  cases sl <;> try rfl
  rename_i a b c p
  cases c with
  | none => exact absurd rfl (h a b p)
  | some _ => rfl

theorem psub_ok {o i r : PV} {C : List Con} {vo vi : Value} {ev sl : PySem.Expr} (h : psub o i σ = some (r, σ', C)) (hs : ∀ a b p, sl ≠ .Slice a b none p) (Vo : W.V I D vo o) (Vi : W.V I D vi i) (X : W.K.In s.heap)
    (F : Fr h₀ L s.heap m) (S : W.S h₀ L s.heap σ D I) (hR : Ret W h₀ L m D I s σ' r Q) : wpAny W.M A (subscriptTail ev sl vo vi) Q E s := by
  unfold psub at h
  split at h
  · split at h
    · split at h
      · rename_i hk
        split at h
        · rename_i hj
          split at h
          · rename_i hv
            cases h
            cases Vi with
            | int k t =>
            obtain ⟨a, rfl⟩ : ∃ a, vo = .ref a := by cases Vo <;> exact ⟨_, rfl⟩
            obtain ⟨vs, ht, hvs, _⟩ := isTup_of X S Vo
            obtain ⟨v, e, V⟩ := hvs.get hv
            have hk := of_decide_eq_true hk
            exact item_tupleT ht hk.1 hk.2 (by rw [hvs.length]; exact hj) e (hR.at F S V) (subscripted_plain hs)
          · cases h
        · cases h
      · cases h
    · cases h
  · split at h
    · split at h
      · rename_i el
        split at h
        · rename_i hv
          cases h
          obtain ⟨t, rfl⟩ : ∃ t, vi = .str _ t := by cases Vi; exact ⟨_, rfl⟩
          obtain ⟨d, o, vs, os, rfl, lo, ho, hdi, r, hd, eo, N, up⟩ := dict_at S Vo el
          have hdo : s.heap.DictOf (PySem.strKind W.prog W.w) d vs := Heap.dictOf_iff.mpr ⟨o, ho, hdi⟩
          obtain ⟨v, e, V⟩ := (krs_get r).2.1 _ hv
          exact tail_any hdo.typeIs slot_dict_getitem.lookup (wpAny_getItem_of (strKind_is _ _ _ t) hdo.mapOf e (hR.here F S V _)) (subscripted_plain hs)
        · cases h
      · cases h
    · split at h
      · rename_i el
        split at h
        · rename_i hk
          split at h
          · rename_i hv
            cases h
            obtain ⟨t, rfl⟩ : ∃ t, vi = .int _ t := by cases Vi; exact ⟨_, rfl⟩
            have hk := of_decide_eq_true hk
            obtain ⟨d, vs, n, os, rfl, ho, rr, hd, eo, N, up⟩ := list_at S Vo el
            have hl : s.heap.IsList d (List.toArray vs) := ⟨_, ho, rfl, _, rfl⟩
            obtain ⟨v, e, V⟩ := rr.get hv
            exact tail_any hl.typeIs slot_list_getitem.lookup (wpAny_getItem_list hl hk.1 hk.2 (x := v) (by simpa using e) (hR.at F S V)) (subscripted_plain hs)
          · cases h
        · cases h
      · cases h
    · cases h
  · split at h
    · split at h
      · rename_i hk
        cases h
        obtain ⟨h1, h2⟩ := Bool.and_eq_true_iff.mp hk
        have h1 := of_decide_eq_true h1
        cases Vi with
        | int _ t =>
        cases Vo with
        | str _ u =>
        exact item_str h2 (by omega) h1.2 (fun _ => hR.here F S (.str _ _) _) (subscripted_plain hs) (by intro r; cases ev <;> rfl)
      · cases h
    · cases h
  · cases h

theorem letGo_str (ev : PySem.Expr) (x : Str) (t : Tok) : ∀ r, letTemporaryGo ev (.str x t) r = pure () := by
  intro r; cases ev <;> rfl
theorem optI_ok {l : PV} {o : Option Int} (h : optI l = some o) {v : Value} (V : W.V I D v l) : match o with | none => v = .none | some i => ∃ t, v = .int i t := by
  cases V <;> simp only [optI, Option.some.injEq, reduceCtorEq] at h <;> subst h
  · rfl
  · exact ⟨_, rfl⟩

/-- the slice of a text: the slice object has been laid -/
theorem pslice_ok {O : Orc} {o l h' r : PV} {C : List Con} {vo vl vh : Value} {ev : PySem.Expr} {elo ehi : Option PySem.Expr} {p : Pos} (h : pslice O o l h' σ = some (r, σ', C)) (hc : ∀ c ∈ C, c.holds W) (Vo : W.V I D vo o) (Vl : W.V I D vl l) (Vh : W.V I D vh h')
    (F : Fr h₀ L s.heap m) (S : W.S h₀ L s.heap σ D I) (hR : Ret W h₀ L m D I s σ' r Q) :
    wpAny W.M A (subscriptTail ev (.Slice elo ehi none p) vo (.ref s.heap.objs.size)) Q E { s with heap := s.heap.push { cls := .type "slice", data := .fields #[vl, vh, .none] } } := by
  cases Vo with
  | str x t =>
    cases el : optI l with
    | none => simp [pslice, el] at h
    | some l₁ =>
      cases eh : optI h' with
      | none => simp [pslice, el, eh] at h
      | some h₁ =>
        cases hb : chk O x.length 10000 with
        | none => simp only [pslice, el, eh, hb, reduceCtorEq] at h
        | some C' =>
          simp only [pslice, el, eh, hb, Option.some.injEq, Prod.mk.injEq] at h
          obtain ⟨rfl, rfl, rfl⟩ := h
          have hz := le_line (chk_ok hb hc)
          obtain ⟨os, N, Os, nd, ap⟩ := S
          have fin : ∀ (h'' : Heap) (t' : Tok) (k : Nat), Fr h₀ L h'' m → News h₀ L h'' (D.zip os ++ I) → Q (.str (Txt.slice x l₁ h₁) t') { s with heap := h'', toks := k } :=
            fun h'' t' k F' N' => hR _ h'' k D I F' ⟨os, N', Os, nd, ap⟩ Ext.refl (.str _ t')
          have e1 := optI_ok el Vl
          have e2 := optI_ok eh Vh
          cases l₁ with
          | none => cases h₁ with
            | none => dsimp only at e1 e2; subst e1 e2; exact slice_strN_nn F N fin rfl (letGo_str _ _ _) hz
            | some j => dsimp only at e1 e2; obtain ⟨u, rfl⟩ := e2; subst e1; exact slice_strN_ns F N fin rfl (letGo_str _ _ _) hz
          | some i => cases h₁ with
            | none => dsimp only at e1 e2; obtain ⟨u, rfl⟩ := e1; subst e2; exact slice_strN_sn F N fin rfl (letGo_str _ _ _) hz
            | some j => dsimp only at e1 e2; obtain ⟨u, rfl⟩ := e1; obtain ⟨u', rfl⟩ := e2; exact slice_strN_ss F N fin rfl (letGo_str _ _ _) hz
  | obj hd0 =>
    rename_i i
    unfold pslice at h
    dsimp only at h
    · split at h
      · rename_i q el'
        split at h
        · rename_i l₁ el
          split at h
          · rename_i h₁ eh
            split at h
            · rename_i c hb
              cases h
              obtain ⟨d, vs, n, _, e0, ho, rr, hd, _, _, _⟩ := list_at S (.obj hd0) el'
              rw [e0]
              have e1 := optI_ok el Vl
              have e2 := optI_ok eh Vh
              have p1 : IsPart vl l₁ := by
                cases l₁ with
                | none => dsimp only at e1; subst e1; exact .none
                | some x => dsimp only at e1; obtain ⟨u, rfl⟩ := e1; exact .int _ _
              have p2 : IsPart vh h₁ := by
                cases h₁ with
                | none => dsimp only at e2; subst e2; exact .none
                | some x => dsimp only at e2; obtain ⟨u, rfl⟩ := e2; exact .int _ _
              obtain ⟨os, N, Os, nd, ap⟩ := S
              have hl : s.heap.IsList d (List.toArray vs) := ⟨_, ho, rfl, _, rfl⟩
              have hz : (List.toArray vs).size ≤ sizeLine := by rw [List.size_toArray, rr.length]; exact le_line (chk_ok hb hc)
              refine tail_any (ops := [.ref s.heap.objs.size, .ref d]) (Heap.IsList.typeIs (s := { s with heap := s.heap.push { cls := .type "slice", data := .fields #[vl, vh, .none] } }) (hl.push _)) list_getitem_lookup
                (wpAny_getItem_list_slice (hl.push _) (Heap.IsSliceOf.new ..) p1 p2 .none (by decide) ?_ hz) ?_
              · have F1 := F.push { cls := .type "slice", data := .fields #[vl, vh, .none] }
                have N1 : News h₀ L (s.heap.push { cls := .type "slice", data := .fields #[vl, vh, .none] }) (D.zip os ++ I) := N.grown fun _ _ e => Heap.get?_push_of_some _ e
                have off := St.off (W := W) Os (q := (s.heap.push { cls := .type "slice", data := .fields #[vl, vh, .none] }).objs.size) fun p hp => Heap.lt_size (N1 p hp).1
                have N2 := News.push F1 N1 { cls := .type "list", data := .seq (slicePick (List.toArray vs) l₁ h₁ none) }
                have rr' : VRs W.K I D (kms_pick vs l₁ h₁) ((q.drop (kms_lo l₁ q.length)).take (kms_hi h₁ q.length - kms_lo l₁ q.length)) := by
                  unfold kms_pick; rw [rr.length]; exact (rr.drop _).take _
                refine hR (.ref _) _ s.toks (D ++ [_]) I (F1.push _) (St.more_of Os nd ap off.1 off.2 ?_ N2) Ext.snoc (.obj (by rw [← Os.len.2]; exact get_snoc))
                rw [kms_pick_eq]
                exact .list (n := 0) (rr'.mono Ext.snoc)
              · rfl
            · cases h
          · cases h
        · cases h
      · cases h
  | _ => cases h

theorem plen_ok {O : Orc} {v r : PV} {C : List Con} {vv : Value} (h : plen O v σ = some (r, σ', C)) (hc : ∀ c ∈ C, c.holds W) (V : W.V I D vv v)
    (F : Fr h₀ L s.heap m) (S : W.S h₀ L s.heap σ D I) (hR : Ret W h₀ L m D I s σ' r Q) : wpAny W.M A (call (.builtin "len") [vv]) Q E s := by
  unfold plen at h
  split at h
  · split at h
    · rename_i hb
      cases h
      cases V with
      | str x t =>
      have := chk_ok hb hc
      exact len_str (by omega) (hR.here F S (.int _ _) _)
    · cases h
  · split at h
    · rename_i el
      split at h
      · rename_i hb
        cases h
        obtain ⟨d, vs, n, os, rfl, ho, r, _⟩ := list_at S V el
        have := chk_ok hb hc
        have e := r.length
        exact kun_lenL ⟨_, ho, rfl, _, rfl⟩ (by rw [List.size_toArray, e]) (by omega) (hR.here F S (.int _ _) _)
      · cases h
    · cases h
  · cases h

theorem pisi_ok {v c r : PV} {C : List Con} {vv vc : Value} (ok : TabOk W) (h : pisi W.Tb v c σ = some (r, σ', C)) (V : W.V I D vv v) (Vc : W.V I D vc c) (X : W.K.In s.heap)
    (F : Fr h₀ L s.heap m) (S : W.S h₀ L s.heap σ D I) (hR : Ret W h₀ L m D I s σ' r Q) : wpAny W.M A (call (.builtin "isinstance") [vv, vc]) Q E s := by
  unfold pisi at h
  split at h
  · cases Vc
    split at h
    · rename_i eT
      split at h
      · rename_i eb
        cases h
        have e := ok.isi _ _ _ eb
        cases V <;> simp only [typeName, Option.some.injEq, reduceCtorEq] at eT <;> subst eT
        · exact kia_one kitx_none X trivial e nofun fun tk => hR.here F S (.bool _) tk
        · exact kia_one kitx_int X trivial e nofun fun tk => hR.here F S (.bool _) tk
        · exact kia_one kitx_str X trivial e nofun fun tk => hR.here F S (.bool _) tk
      · cases h
    · cases h
  · cases h

theorem pappend_ok {O : Orc} {i : Nat} {v r : PV} {C : List Con} {vo vv : Value} (h : pappend O i v σ = some (r, σ', C)) (hc : ∀ c ∈ C, c.holds W) (Vo : W.V I D vo (.obj i)) (V : W.V I D vv v)
    (F : Fr h₀ L s.heap m) (S : W.S h₀ L s.heap σ D I) (hR : Ret W h₀ L m D I s σ' r Q) : wpAny W.M A (call (.builtin "list.append") [vo, vv]) Q E s := by
  unfold pappend at h
  split at h
  · rename_i el
    split at h
    · rename_i hb
      cases h
      obtain ⟨d, vs, n, os, rfl, ho, rr, hd, eo, N, up⟩ := list_at S Vo el
      have hp : (List.toArray vs).push vv = List.toArray (vs ++ [vv]) := by simp
      have U := up (listOf ((List.toArray vs).push vv) (n + 1)) _ (by rw [hp]; exact .list (rr.append (.cons V .nil)))
      exact append_K F N U.1 (fun h' F' N' => hR .none h' s.toks D I F' (U.2 h' N') Ext.refl .none) (by rw [List.size_toArray, rr.length]; exact le_line (chk_ok hb hc))
    · cases h
  · cases h

theorem vrs_last : ∀ {vs : List Value} {l : List PV} {v : PV}, VRs W.K I D vs l → l.getLast? = some v → ∃ p y, vs = p ++ [y] ∧ W.V I D y v ∧ VRs W.K I D p l.dropLast := by
  intro vs l v h e
  have hr := h.reverse
  rw [← List.head?_reverse] at e
  cases q : l.reverse with
  | nil => rw [q] at e; cases e
  | cons a t =>
    rw [q] at e hr
    cases e
    cases w : vs.reverse with
    | nil => rw [w] at hr; cases hr
    | cons y p =>
      rw [w] at hr
      cases hr with
      | cons V r =>
        have e1 : vs = p.reverse ++ [y] := by rw [← List.reverse_cons, ← w, List.reverse_reverse]
        have e2 : l = t.reverse ++ [v] := by rw [← List.reverse_cons, ← q, List.reverse_reverse]
        refine ⟨p.reverse, y, e1, V, ?_⟩
        rw [e2, List.dropLast_concat]
        exact r.reverse
theorem ppop_ok {O : Orc} {i : Nat} {r : PV} {C : List Con} {vo : Value} (h : ppop O i σ = some (r, σ', C)) (hc : ∀ c ∈ C, c.holds W) (Vo : W.V I D vo (.obj i))
    (F : Fr h₀ L s.heap m) (S : W.S h₀ L s.heap σ D I) (hR : Ret W h₀ L m D I s σ' r Q) : wpAny W.M A (call (.builtin "list.pop") [vo]) Q E s := by
  have go : ∀ {l : List PV} {v : PV}, σ[i]? = some (.list l) → l.getLast? = some v → l.length ≤ 10000 → r = v → σ' = σ.set i (.list l.dropLast) → wpAny W.M A (call (.builtin "list.pop") [vo]) Q E s := by
    intro l v el ev hb e1 e2
    subst e1; subst e2
    obtain ⟨d, vs, n, os, rfl, ho, rr, hd, eo, N, up⟩ := list_at S Vo el
    have hz : vs.length ≤ sizeLine := by rw [rr.length]; exact le_line hb
    obtain ⟨p, y, e, V, r⟩ := vrs_last rr ev
    subst e
    have U := up (listOf (List.toArray p) (n + 1)) _ (.list r)
    exact kl_pop F N (by simpa using kpa_last y p) U.1 (by simpa using hz) fun h' F' N' => hR y h' s.toks D I F' (U.2 h' N') Ext.refl V
  unfold ppop at h
  split at h
  · rename_i el
    split at h
    · cases h
      obtain ⟨e, hl⟩ := hc _ (.head _)
      subst e
      exact go el (by simp) hl rfl (by simp)
    · split at h
      · rename_i ev
        split at h
        · rename_i hb
          cases h
          exact go el ev (Nat.le_of_ble_eq_true hb) rfl rfl
        · cases h
      · cases h
  · cases h

theorem pdictGet_ok {i : Nat} {k d r : PV} {C : List Con} {vo vk vd : Value} (h : pdictGet i k d σ = some (r, σ', C)) (Vo : W.V I D vo (.obj i)) (Vk : W.V I D vk k) (Vd : W.V I D vd d)
    (F : Fr h₀ L s.heap m) (S : W.S h₀ L s.heap σ D I) (hR : Ret W h₀ L m D I s σ' r Q) : wpAny W.M A (call (.builtin "dict.get") [vo, vk, vd]) Q E s := by
  unfold pdictGet at h
  split at h
  · rename_i x
    split at h
    · rename_i l el
      cases h
      obtain ⟨t, rfl⟩ : ∃ t, vk = .str x t := by cases Vk; exact ⟨_, rfl⟩
      obtain ⟨a, o, vs, os, rfl, lo, ho, hdi, r, hd, eo, N, up⟩ := dict_at S Vo el
      have hdo : s.heap.DictOf (PySem.strKind W.prog W.w) a vs := Heap.dictOf_iff.mpr ⟨o, ho, hdi⟩
      refine call_meetsIn PySem.F.slot_dict_get hdo.typeIs PySem.F.entry_dict_get (PySem.F.args_dict_get_3 _ _ _) (meets_dict_get_default _ a (strKind_is _ _ _ t) lo vd) ⟨_, hdo.mapOf, ?_⟩
      refine hR.here F S ?_ _
      cases q : List.lookup x l with
      | some pv => obtain ⟨v, e, V⟩ := (krs_get r).2.1 pv q; rw [e]; exact V
      | none => rw [(krs_get r).2.2 q]; exact Vd
    · cases h
  · cases h
end
end Mine
end D4
section D5
namespace Mine
open PM

noncomputable def Nm (W : Wd) (A : Around) (env : Env) (h₀ : Heap) (L : Addr) (m : Str → Option Value) (D : List Addr) (I : Led) (cs : Scope) (ρ : Loc) : Prop :=
  ∀ x pv, nameE W.Tb cs ρ x = some pv → ∀ (pos : Pos) (s : Shared) (σ : List PO) (D' : List Addr) (I' : Led), Ext D I D' I' → Fr h₀ L s.heap m → W.S h₀ L s.heap σ D' I' →
    ∀ Q : Value → Shared → Prop, (∀ v, W.V I' D' v pv → Q v s) → wpAny W.M A (eval (.Name x pos) env) Q ff s

structure EC (W : Wd) (k : Nat) (A : Around) (env : Env) (h₀ : Heap) (L : Addr) (m : Str → Option Value) (D : List Addr) (I : Led) (cs : Scope) (ρ : Loc) : Prop where
  ok : TabOk W
  gd : Gd W h₀
  hh : A.handled = none
  un : A.units + 10 * k + 10 < cLine
  nm : Nm W A env h₀ L m D I cs ρ
  cx : k = 0 ∨ Cx W k A env h₀ L
theorem EC.later {W : Wd} {k : Nat} {A : Around} {env : Env} {h₀ : Heap} {L : Addr} {m : Str → Option Value} {D D' : List Addr} {I I' : Led} {cs : Scope} {ρ : Loc} (c : EC W k A env h₀ L m D I cs ρ) (x : Ext D I D' I') :
    EC W k A env h₀ L m D' I' cs ρ := ⟨c.ok, c.gd, c.hh, c.un, fun n pv h pos s σ D'' I'' y => c.nm n pv h pos s σ D'' I'' (x.trans y), c.cx⟩

noncomputable def RetL (W : Wd) (h₀ : Heap) (L : Addr) (m : Str → Option Value) (D : List Addr) (I : Led) (s : Shared) (σ : List PO) (l : List PV) (Q : List Value → Shared → Prop) : Prop :=
  ∀ vals h' tk' D' I', Fr h₀ L h' m → W.S h₀ L h' σ D' I' → Ext D I D' I' → VRs W.K I' D' vals l → Q vals { s with heap := h', toks := tk' }
noncomputable def RetB (W : Wd) (h₀ : Heap) (L : Addr) (m : Str → Option Value) (D : List Addr) (I : Led) (s : Shared) (σ : List PO) (b : Bool) (Q : Bool → Shared → Prop) : Prop :=
  ∀ h' tk' D' I', Fr h₀ L h' m → W.S h₀ L h' σ D' I' → Ext D I D' I' → Q b { s with heap := h', toks := tk' }

section
variable (W : Wd) (k : Nat) (cs : Scope) (ρ : Loc)
noncomputable def EOK (e : PySem.Expr) (σ : List PO) (v : PV) (σ' : List PO) : Prop := ∀ (A : Around) (env : Env) (h₀ : Heap) (L : Addr) (m : Str → Option Value) (D : List Addr) (I : Led) (s : Shared),
  EC W k A env h₀ L m D I cs ρ → Fr h₀ L s.heap m → W.S h₀ L s.heap σ D I → ∀ Q, Ret W h₀ L m D I s σ' v Q → wpAny W.M A (eval e env) Q ff s
noncomputable def POK (e : Option PySem.Expr) (σ : List PO) (v : PV) (σ' : List PO) : Prop := ∀ (A : Around) (env : Env) (h₀ : Heap) (L : Addr) (m : Str → Option Value) (D : List Addr) (I : Led) (s : Shared),
  EC W k A env h₀ L m D I cs ρ → Fr h₀ L s.heap m → W.S h₀ L s.heap σ D I → ∀ Q, Ret W h₀ L m D I s σ' v Q → wpAny W.M A (evalPart e env) Q ff s
noncomputable def LOK (es : List PySem.Expr) (σ : List PO) (l : List PV) (σ' : List PO) : Prop := ∀ (A : Around) (env : Env) (h₀ : Heap) (L : Addr) (m : Str → Option Value) (D : List Addr) (I : Led) (s : Shared) (pos : Pos),
  EC W k A env h₀ L m D I cs ρ → Fr h₀ L s.heap m → W.S h₀ L s.heap σ D I → ∀ Q, RetL W h₀ L m D I s σ' l Q → wpAny W.M A (spliced (backTo pos (starEach es env))) Q ff s
noncomputable def TOK (e : PySem.Expr) (σ : List PO) (b : Bool) (σ' : List PO) : Prop := ∀ (A : Around) (env : Env) (h₀ : Heap) (L : Addr) (m : Str → Option Value) (D : List Addr) (I : Led) (s : Shared),
  EC W k A env h₀ L m D I cs ρ → Fr h₀ L s.heap m → W.S h₀ L s.heap σ D I → ∀ Q, RetB W h₀ L m D I s σ' b Q → wpAny W.M A (PySem.isTrue e env (eval e env)) Q ff s
noncomputable def MOK (ov : PV) (name : Str) (args : List PySem.Expr) (σ : List PO) (v : PV) (σ' : List PO) : Prop := ∀ (A : Around) (env : Env) (h₀ : Heap) (L : Addr) (m : Str → Option Value) (D : List Addr) (I : Led) (s : Shared) (pos : Pos) (pl : Sem Bool) (vo : Value),
  noStar args = true → EC W k A env h₀ L m D I cs ρ → Fr h₀ L s.heap m → W.S h₀ L s.heap σ D I → W.V I D vo ov → ∀ Q, Ret W h₀ L m D I s σ' v Q →
    wpAny W.M A (getMethod vo name pl) (fun fx s₂ => wpAny W.M A (callWith pos fx.1 fx.2 (backTo pos (starEach args env)) []) Q ff s₂) ff s
noncomputable def AOK (fv : PV) (args : List PySem.Expr) (σ : List PO) (v : PV) (σ' : List PO) : Prop := ∀ (A : Around) (env : Env) (h₀ : Heap) (L : Addr) (m : Str → Option Value) (D : List Addr) (I : Led) (s : Shared) (pos : Pos) (vf : Value),
  noStar args = true → EC W k A env h₀ L m D I cs ρ → Fr h₀ L s.heap m → W.S h₀ L s.heap σ D I → W.V I D vf fv → ∀ Q, Ret W h₀ L m D I s σ' v Q →
    wpAny W.M A (callWith pos vf [] (backTo pos (starEach args env)) []) Q ff s
end

section
variable {W : Wd} {A : Around} {env : Env}
theorem starEach_cons {e : PySem.Expr} {r : List PySem.Expr} (h : noStar [e] = true) : starEach (e :: r) env = (false, eval e env) :: starEach r env := by
  cases e <;> first | rfl | cases h
theorem noStar_cons {e : PySem.Expr} {r : List PySem.Expr} (h : noStar (e :: r) = true) : noStar [e] = true ∧ noStar r = true := by
  cases e <;> first | exact ⟨rfl, h⟩ | cases h
theorem noStar_any {pos : Pos} : ∀ {es : List PySem.Expr}, noStar es = true → (backTo pos (starEach es env)).any (·.1) = false
  | [], _ => rfl
  | e :: r, h => by
    obtain ⟨h1, h2⟩ := noStar_cons h
    rw [starEach_cons h1]
    show (false || (backTo pos (starEach r env)).any (·.1)) = false
    rw [noStar_any h2]; rfl
theorem evalArgs_gen {M : Model} {E : Value → Shared → Prop} {s : Shared} {f : Value} {pos : Pos} {es : List PySem.Expr} {Q : Args → Shared → Prop} (hn : noStar es = true)
    (h : wpAny M A (spliced (backTo pos (starEach es env))) (fun vs s' => Q ⟨vs, []⟩ s') E s) : wpAny M A (evalArgs f true (backTo pos (starEach es env)) []) Q E s := by
  cases es with
  | nil =>
    unfold evalArgs
    show wpAny M A (spliced [] >>= _) Q E s
    refine wpAny_bind (wpAny_mono h (fun vs s' h' => ?_) fun _ _ x => x)
    refine wpAny_holding ?_
    exact wpAny_bind (wpAny_pure (wpAny_bind (wpAny_pure (wpAny_pure h'))))
  | cons e r =>
    obtain ⟨h1, _⟩ := noStar_cons hn
    rw [starEach_cons h1] at h ⊢
    exact evalArgs_plain h
/-- a call of what needs no frame's care -/
theorem callW {M : Model} {E : Value → Shared → Prop} {s : Shared} {f : Value} {first : List Value} {pos : Pos} {es : List PySem.Expr} {Q : Value → Shared → Prop} {P : Heap → Prop} (hn : noStar es = true)
    (hk : ∀ h, P h → ∃ k, (k = Keeper.frame ∨ k = Keeper.machine ∨ k = Keeper.boundFrame) ∧ Looks M h (keeperOf f) k)
    (h : wpAny M A (spliced (backTo pos (starEach es env))) (fun vs s' => P s'.heap ∧ wpAny M A (call f (first ++ vs)) Q E s') E s) : wpAny M A (callWith pos f first (backTo pos (starEach es env)) []) Q E s :=
  callWith_of (by rw [noStar_any hn]; rfl) hk (evalArgs_gen hn h)
theorem keeps_builtin {M : Model} {id : String} (h : Heap) (_ : True) : ∃ k, (k = Keeper.frame ∨ k = Keeper.machine ∨ k = Keeper.boundFrame) ∧ Looks M h (keeperOf (.builtin id)) k :=
  ⟨.machine, .inr (.inl rfl), Looks.now⟩
theorem base_plain {o : PySem.Expr} {a : Str} {t : Sem Value} (h : plainBase o = true) : attributeBase o a env t = t := by
  unfold attributeBase
  split
  · cases h
  · rfl
theorem few_ok {pos : Pos} {es : List PySem.Expr} (hn : noStar es = true) (hl : Nat.ble es.length 20 = true) : methodCallForm (es.length + 0) (backTo pos (starEach es env)) [] = true := by
  have := Nat.le_of_ble_eq_true hl
  have h1 : (backTo pos (starEach es env)).all (fun x => !x.1) = true := by
    rw [List.all_eq_not_any_not]
    simp only [Bool.not_not, noStar_any hn, Bool.not_false]
  unfold methodCallForm
  rw [h1]
  simp
  omega
theorem method_eq {o : PySem.Expr} {name : Str} {apos pos : Pos} {args : List PySem.Expr} (h1 : plainBase o = true) (h2 : noStar args = true) (h3 : Nat.ble args.length 20 = true) (h4 : (apos.endLine == pos.line) = true) :
    eval (.Call (.Attribute o name apos) args [] pos) env = (do
      let ov ← eval o env
      standAt apos.atName
      let (f, first) ← holding [ov] (getMethod ov name (do return (← importBound o env).getD true))
      callWith pos f first (backTo pos (starEach args env)) []) := by
  have e1 : eval (.Call (.Attribute o name apos) args [] pos) env = (do
      let ov ← attributeBase o name env (eval o env)
      standAt apos.atName
      methodCall o name apos pos env ov (args.length + 0) (backTo pos (starEach args env)) []) := rfl
  rw [e1, base_plain h1]
  have e2 : ∀ ov, methodCall o name apos pos env ov (args.length + 0) (backTo pos (starEach args env)) [] = (do
      let (f, first) ← holding [ov] (getMethod ov name (do return (← importBound o env).getD true))
      callWith pos f first (backTo pos (starEach args env)) []) := by
    intro ov
    unfold methodCall calleeOf methodCallPos
    rw [few_ok h2 h3, h4]
    rfl
  simp only [e2]
end
end Mine
end D5
section D6
namespace Mine
open PM

noncomputable def FR (W : Wd) (I : Led) (D : List Addr) : Flow → Fl → Prop
  | .next, .next => True
  | .brk, .brk => True
  | .ret v, .ret p => W.V I D v p
  | _, _ => False
/-- the frame's names -/
noncomputable def LR (W : Wd) (cs : Scope) (cl : List (Str × Addr)) (I : Led) (D : List Addr) (m : Str → Option Value) (ρ : Loc) : Prop :=
  ∀ x pv, ρ.lookup x = some pv → match cs.names.lookup x with
    | some .local => ∃ v, m x = some v ∧ W.V I D v pv
    | some .cell => ∃ c o v, cl.lookup x = some c ∧ (c, o) ∈ I ∧ o.data = .cell (some v) ∧ W.V I D v pv
    | some .free => ∃ c o v, cl.lookup x = some c ∧ (c, o) ∈ I ∧ o.data = .cell (some v) ∧ W.V I D v pv
    | _ => True
theorem LR.later {W : Wd} {cs : Scope} {cl : List (Str × Addr)} {I I' : Led} {D D' : List Addr} {m : Str → Option Value} {ρ : Loc} (h : LR W cs cl I D m ρ) (x : Ext D I D' I') : LR W cs cl I' D' m ρ := by
  intro y pv e
  have q := h y pv e
  split at q
  · obtain ⟨v, a, b⟩ := q; exact ⟨v, a, b.mono x⟩
  · obtain ⟨c, o, v, a, b, d, f⟩ := q; exact ⟨c, o, v, a, x.i _ b, d, f.mono x⟩
  · obtain ⟨c, o, v, a, b, d, f⟩ := q; exact ⟨c, o, v, a, x.i _ b, d, f.mono x⟩
  · trivial
theorem lookup_putA {x : Str} {v : PV} : ∀ {l : List (Str × PV)} {y : Str}, (putA x v l).lookup y = if y == x then some v else l.lookup y
  | [], y => by unfold putA; rw [List.lookup_cons]; cases q : y == x <;> simp
  | (z, u) :: r, y => by
    unfold putA
    cases q : z == x with
    | true =>
      have e : z = x := beq_iff_eq.mp q
      subst e
      dsimp only
      rw [List.lookup_cons, List.lookup_cons]
      cases y == z <;> simp
    | false =>
      dsimp only
      rw [List.lookup_cons, List.lookup_cons, lookup_putA]
      cases p : y == z with
      | true =>
        have e : y = z := beq_iff_eq.mp p
        subst e
        simp [q]
      | false => rfl
theorem LR.set {W : Wd} {cs : Scope} {cl : List (Str × Addr)} {I : Led} {D : List Addr} {m : Str → Option Value} {ρ : Loc} (h : LR W cs cl I D m ρ) {x : Str} {v : Value} {pv : PV} (V : W.V I D v pv) (hx : cs.names.lookup x = some .local) :
    LR W cs cl I D (fun y => if y = x then some v else m y) (setL x pv ρ) := by
  intro y p e
  unfold setL at e
  rw [lookup_putA] at e
  by_cases q : y = x
  · subst q
    simp only [beq_self_eq_true, if_true, Option.some.injEq] at e
    subst e
    rw [hx]
    exact ⟨v, by simp, V⟩
  · have e' : (y == x) = false := by simpa using q
    rw [e'] at e
    have z := h y p (by simpa using e)
    split at z
    · obtain ⟨u, a, b⟩ := z; exact ⟨u, by simp [q, a], b⟩
    · exact z
    · exact z
    · trivial

noncomputable def RetX (W : Wd) (cs : Scope) (cl : List (Str × Addr)) (h₀ : Heap) (L : Addr) (D : List Addr) (I : Led) (s : Shared) (σ : List PO) (fl : Fl) (ρ : Loc) (Q : Flow → Shared → Prop) : Prop :=
  ∀ f h' tk' m' D' I', Fr h₀ L h' m' → W.S h₀ L h' σ D' I' → Ext D I D' I' → LR W cs cl I' D' m' ρ → FR W I' D' f fl → Q f { s with heap := h', toks := tk' }
structure XC (W : Wd) (k : Nat) (A : Around) (env : Env) (h₀ : Heap) (L : Addr) (cs : Scope) (cl : List (Str × Addr)) : Prop where
  ok : TabOk W
  gd : Gd W h₀
  hh : A.handled = none
  un : A.units + 10 * k + 10 < cLine
  cx : Cx W k A env h₀ L
  sh : ∃ qual f cdv, env = envX qual cs L f cdv cl
  kd : cs.kind = .function

theorem XC.ec {W : Wd} {k : Nat} {A : Around} {env : Env} {h₀ : Heap} {L : Addr} {cs : Scope} {cl : List (Str × Addr)} {D : List Addr} {I : Led} {m : Str → Option Value} {ρ : Loc} (x : XC W k A env h₀ L cs cl) (lr : LR W cs cl I D m ρ) :
    EC W k A env h₀ L m D I cs ρ := by
  refine ⟨x.ok, x.gd, x.hh, x.un, ?_, .inr x.cx⟩
  obtain ⟨qual, f, cdv, rfl⟩ := x.sh
  intro n pv h pos s σ D' I' y F S Q hQ
  unfold nameE at h
  split at h
  · cases h
  · rename_i hd
    have TR := topRead_of x.gd.T
    split at h
    · rename_i kn
      have z := lr.later y n pv h
      rw [kn] at z
      obtain ⟨v, e, V⟩ := z
      exact nameX_L F e (hQ v V) x.kd kn hd
    · rename_i kn
      have z := lr.later y n pv h
      rw [kn] at z
      obtain ⟨c, o, v, e, hm, hv, V⟩ := z
      exact nameX_C S.newsI e hm hv (hQ v V) x.kd kn hd
    · rename_i kn
      split at h
      · cases h
      · rename_i hc
        have z := lr.later y n pv h
        rw [kn] at z
        obtain ⟨c, o, v, e, hm, hv, V⟩ := z
        exact nameX_F S.newsI e hm hv (hQ v V) x.kd kn hd hc
    · rename_i kn
      rcases x.ok.glob n pv h with ⟨v, e, V⟩ | ⟨v, e, hb, hn, rfl⟩
      · exact nameX_K F x.gd.X TR e (hQ v (V _ _)) x.kd kn hd
      · exact nameX_B F x.gd.X TR e hb hn (hQ v (.glo v)) x.kd kn hd
    · cases h

section
variable (W : Wd) (k : Nat) (cs : Scope) (ρ : Loc)
noncomputable def SOK (st : Stmt) (σ : List PO) (fl : Fl) (ρ' : Loc) (σ' : List PO) : Prop := ∀ (A : Around) (env : Env) (h₀ : Heap) (L : Addr) (m : Str → Option Value) (D : List Addr) (I : Led) (s : Shared) (cl : List (Str × Addr)),
  XC W k A env h₀ L cs cl → Fr h₀ L s.heap m → W.S h₀ L s.heap σ D I → LR W cs cl I D m ρ → ∀ Q, RetX W cs cl h₀ L D I s σ' fl ρ' Q → wpAny W.M A (exec st env) Q ff s
noncomputable def SSOK (ss : List Stmt) (σ : List PO) (fl : Fl) (ρ' : Loc) (σ' : List PO) : Prop := ∀ (A : Around) (env : Env) (h₀ : Heap) (L : Addr) (m : Str → Option Value) (D : List Addr) (I : Led) (s : Shared) (cl : List (Str × Addr)),
  XC W k A env h₀ L cs cl → Fr h₀ L s.heap m → W.S h₀ L s.heap σ D I → LR W cs cl I D m ρ → ∀ Q, RetX W cs cl h₀ L D I s σ' fl ρ' Q → wpAny W.M A (execs ss env) Q ff s
end

/-- what the evaluator says at some fuel holds -/
structure Snd (W : Wd) (O : Orc) (n : Nat) : Prop where
  e : ∀ k cs ρ e σ v σ' C, pe W.Tb O n k cs ρ e σ = some (v, σ', C) → (∀ c ∈ C, c.holds W) → EOK W k cs ρ e σ v σ'
  p : ∀ k cs ρ e σ v σ' C, po W.Tb O n k cs ρ e σ = some (v, σ', C) → (∀ c ∈ C, c.holds W) → POK W k cs ρ e σ v σ'
  l : ∀ k cs ρ es σ v σ' C, pes W.Tb O n k cs ρ es σ = some (v, σ', C) → (∀ c ∈ C, c.holds W) → LOK W k cs ρ es σ v σ'
  t : ∀ k cs ρ e σ v σ' C, pt W.Tb O n k cs ρ e σ = some (v, σ', C) → (∀ c ∈ C, c.holds W) → TOK W k cs ρ e σ v σ'
  m : ∀ k cs ρ ov x as σ v σ' C, pmeth W.Tb O n k cs ρ ov x as σ = some (v, σ', C) → (∀ c ∈ C, c.holds W) → MOK W k cs ρ ov x as σ v σ'
  a : ∀ k cs ρ fv as σ v σ' C, papp W.Tb O n k cs ρ fv as σ = some (v, σ', C) → (∀ c ∈ C, c.holds W) → AOK W k cs ρ fv as σ v σ'
  c : TabOk W → ∀ k f vs σ v σ' C, pcall W.Tb O n k f vs σ = some (v, σ', C) → (∀ c ∈ C, c.holds W) → COK W k f vs σ v σ'
  s : ∀ k cs ρ st σ fl ρ' σ' C, px W.Tb O n k cs ρ st σ = some ((fl, ρ'), σ', C) → (∀ c ∈ C, c.holds W) → SOK W k cs ρ st σ fl ρ' σ'
  ss : ∀ k cs ρ ss σ fl ρ' σ' C, pxs W.Tb O n k cs ρ ss σ = some ((fl, ρ'), σ', C) → (∀ c ∈ C, c.holds W) → SSOK W k cs ρ ss σ fl ρ' σ'

theorem Snd.zero {W : Wd} {O : Orc} : Snd W O 0 := by
  constructor
  · intro k cs ρ e σ v σ' C h; exact no_some h
  · intro k cs ρ e σ v σ' C h; exact no_some h
  · intro k cs ρ e σ v σ' C h; exact no_some h
  · intro k cs ρ e σ v σ' C h; exact no_some h
  · intro k cs ρ ov x as σ v σ' C h; exact no_some h
  · intro k cs ρ fv as σ v σ' C h; exact no_some h
  · intro _ k f vs σ v σ' C h; exact no_some h
  · intro k cs ρ st σ fl ρ' σ' C h; exact no_some h
  · intro k cs ρ st σ fl ρ' σ' C h; exact no_some h

theorem cl_app {P : Con → Prop} {a b : List Con} (h : ∀ c ∈ a ++ b, P c) : (∀ c ∈ a, P c) ∧ ∀ c ∈ b, P c :=
  ⟨fun c hc => h c (List.mem_append_left _ hc), fun c hc => h c (List.mem_append_right _ hc)⟩

theorem bind_elim {W : Wd} {α β : Type} {x : PM α} {f : α → PM β} {σ σ₂ : List PO} {b : β} {C : List Con} {P : Prop} (h : x.bind f σ = some (b, σ₂, C)) (hc : ∀ c ∈ C, c.holds W)
    (k : ∀ a σ₁ c₁ c₂, x σ = some (a, σ₁, c₁) → (∀ c ∈ c₁, c.holds W) → f a σ₁ = some (b, σ₂, c₂) → (∀ c ∈ c₂, c.holds W) → P) : P := by
  obtain ⟨a, σ₁, c₁, c₂, h1, h2, rfl⟩ := bind_some h
  exact k _ _ _ _ h1 (cl_app hc).1 h2 (cl_app hc).2

section
variable {W : Wd} {O : Orc} {n : Nat} (H : Snd W O n)
include H
variable {k : Nat} {cs : Scope} {ρ : Loc} {σ σ' : List PO} {C : List Con}

theorem snd_p {e : Option PySem.Expr} {v : PV} (h : po W.Tb O (n + 1) k cs ρ e σ = some (v, σ', C)) (hc : ∀ c ∈ C, c.holds W) : POK W k cs ρ e σ v σ' := by
  intro A env h₀ L m D I s ec F S Q hR
  rw [po_succ] at h; unfold poF at h
  cases e with
  | none => cases h; exact evalPart_none_step (hR.at F S .none)
  | some e => exact evalPart_some_step (H.e k cs ρ e σ v σ' C h hc A env h₀ L m D I s ec F S Q hR)

theorem snd_l {es : List PySem.Expr} {v : List PV} (h : pes W.Tb O (n + 1) k cs ρ es σ = some (v, σ', C)) (hc : ∀ c ∈ C, c.holds W) : LOK W k cs ρ es σ v σ' := by
  intro A env h₀ L m D I s pos ec F S Q hR
  rw [pes_succ] at h; unfold pesF at h
  cases es with
  | nil => cases h; exact args_nil (hR [] s.heap s.toks D I F S Ext.refl .nil)
  | cons e r =>
    dsimp only at h
    cases hs : noStar [e] with
    | false => simp only [hs] at h; cases h
    | true =>
      simp only [hs] at h
      refine bind_elim h hc fun a σ₁ c₁ c₂ h1 hc1 h2 hc2 => ?_
      refine bind_elim h2 hc2 fun l σ₂ c₃ c₄ h3 hc3 h4 hc4 => ?_
      cases h4
      refine args_cons (H.e _ _ _ _ _ _ _ _ h1 hc1 A env h₀ L m D I s ec F S _ fun va ha ta Da Ia Fa Sa xa Va => ?_) (starEach_cons hs)
      exact H.l _ _ _ _ _ _ _ _ h3 hc3 A env h₀ L m Da Ia _ pos (ec.later xa) Fa Sa _ fun vl hl tl Dl Il Fl Sl xl Vl => hR (va :: vl) hl tl Dl Il Fl Sl (xa.trans xl) (.cons (Va.mono xl) Vl)

omit H in
theorem isTrue_default {e : PySem.Expr} {env : Env} {whole : Sem Value} (h : (match e with | .UnaryOp .Not _ _ => true | .BoolOp .. => true | .IfExp .. => true | .Compare .. => true | _ => false) = false) :
    PySem.isTrue e env whole = (do let v ← whole; standAt e.pos; holding [v] (truthy v)) := by
  cases e with
  | UnaryOp op x p => cases op <;> first | rfl | cases h
  | BoolOp => cases h
  | IfExp => cases h
  | Compare => cases h
  | _ => rfl
omit H in
theorem isTrue_or' {M : Model} {A : Around} {E : Value → Shared → Prop} {s : Shared} {env : Env} {op : BoolOp} {vs : List PySem.Expr} {pos : Pos} {w w' : Sem Value} {Q : Bool → Shared → Prop}
    (h : wpAny M A (PySem.isTrue (.BoolOp op vs pos) env w) Q E s) : wpAny M A (PySem.isTrue (.BoolOp op vs pos) env w') Q E s := h

theorem snd_t {e : PySem.Expr} {v : Bool} (h : pt W.Tb O (n + 1) k cs ρ e σ = some (v, σ', C)) (hc : ∀ c ∈ C, c.holds W) : TOK W k cs ρ e σ v σ' := by
  intro A env h₀ L m D I s ec F S Q hR
  rw [pt_succ] at h; unfold ptF at h
  split at h
  · refine bind_elim h hc fun b σ₁ c₁ c₂ h1 hc1 h2 hc2 => ?_
    cases h2
    exact isTrue_not (H.t _ _ _ _ _ _ _ _ h1 hc1 A env h₀ L m D I s ec F S _ hR)
  · cases h; exact isTrue_and_nil (hR s.heap s.toks D I F S Ext.refl)
  · refine bind_elim h hc fun b σ₁ c₁ c₂ h1 hc1 h2 hc2 => ?_
    refine isTrue_and (H.t _ _ _ _ _ _ _ _ h1 hc1 A env h₀ L m D I s ec F S _ fun ha ta Da Ia Fa Sa xa => ?_)
    cases b with
    | true => exact isTrue_or' (H.t _ _ _ _ _ _ _ _ h2 hc2 A env h₀ L m Da Ia _ (ec.later xa) Fa Sa _ fun hb tb Db Ib Fb Sb xb => hR hb tb Db Ib Fb Sb (xa.trans xb))
    | false => cases h2; exact hR ha ta Da Ia Fa Sa xa
  · cases h; exact isTrue_or_nil (hR s.heap s.toks D I F S Ext.refl)
  · refine bind_elim h hc fun b σ₁ c₁ c₂ h1 hc1 h2 hc2 => ?_
    refine isTrue_or (H.t _ _ _ _ _ _ _ _ h1 hc1 A env h₀ L m D I s ec F S _ fun ha ta Da Ia Fa Sa xa => ?_)
    cases b with
    | false => exact isTrue_or' (H.t _ _ _ _ _ _ _ _ h2 hc2 A env h₀ L m Da Ia _ (ec.later xa) Fa Sa _ fun hb tb Db Ib Fb Sb xb => hR hb tb Db Ib Fb Sb (xa.trans xb))
    | true => cases h2; exact hR ha ta Da Ia Fa Sa xa
  · cases h
  · rename_i l op r p
    cases hm : behindInMarks op r with
    | true => rw [hm] at h; cases h
    | false =>
      rw [hm] at h
      refine bind_elim h hc fun a σ₁ c₁ c₂ h1 hc1 h2 hc2 => ?_
      refine bind_elim h2 hc2 fun b σ₂ c₃ c₄ h3 hc3 h4 hc4 => ?_
      refine bind_elim h4 hc4 fun r σ₃ c₅ c₆ h5 hc5 h6 hc6 => ?_
      cases r with
      | bool b' =>
        cases h6
        refine wpAny_isTrue_Compare1 (H.e _ _ _ _ _ _ _ _ h1 hc1 A env h₀ L m D I s ec F S _ fun va ha ta Da Ia Fa Sa xa Va => ?_) hm
        refine H.e _ _ _ _ _ _ _ _ h3 hc3 A env h₀ L m Da Ia _ (ec.later xa) Fa Sa _ fun vb hb tb Db Ib Fb Sb xb Vb => ?_
        refine pcmp_ok h5 hc5 (Va.mono xb) Vb (ec.gd.X.keeps Fb.keep) (by have := ec.un; omega) Fb Sb fun vr hr tr Dr Ir Fr' Sr xr Vr => ?_
        cases Vr
        exact wpAny_truthy_bool (hR hr tr Dr Ir Fr' Sr ((xa.trans xb).trans xr))
      | _ => cases h6
  · cases h
  · refine bind_elim h hc fun r σ₁ c₁ c₂ h1 hc1 h2 hc2 => ?_
    cases r with
    | bool b =>
      cases h2
      refine isTrue_plain (H.e _ _ _ _ _ _ _ _ h1 hc1 A env h₀ L m D I s ec F S _ fun va ha ta Da Ia Fa Sa xa Va => ?_) (isTrue_default ?_)
      · cases Va
        exact wpAny_truthy_bool (hR ha ta Da Ia Fa Sa xa)
      · clear h1
        cases e with
        | UnaryOp op x p => cases op <;> first | rfl | (exfalso; simp_all)
        | BoolOp op vs p => exfalso; cases op <;> cases vs <;> simp_all
        | IfExp => exfalso; rename_i z _ _; exact z _ _ _ _ rfl
        | Compare => exfalso; rename_i z; exact z _ _ _ _ rfl
        | _ => rfl
    | _ => cases h2

omit H in
theorem Ret.call {W : Wd} {A : Around} {h₀ : Heap} {L : Addr} {m : Str → Option Value} {s : Shared} {σ' : List PO} {D : List Addr} {I : Led} {v : PV} {Q : Value → Shared → Prop} {f : Value} {vals : List Value}
    (h : ∀ R : Result → Shared → Prop, Ret W h₀ L m D I s σ' v (fun v s' => R (.ok (.ret v)) s') → codeAny W.M A (.call f ⟨vals, []⟩) R s) (hR : Ret W h₀ L m D I s σ' v Q) : wpAny W.M A (call f vals []) Q ff s :=
  wpAny_call (h _ hR)

omit H in
theorem vrs_strs : ∀ (l : List (Str × Tok)) {I : Led} {D : List Addr}, VRs W.K I D (strValues l) ((l.map (·.1)).map .str)
  | [], _, _ => .nil
  | p :: r, _, _ => .cons (.str p.1 p.2) (vrs_strs r)
omit H in
theorem carried_of : ∀ {vs : List Value} {ys : List Str}, StrsAre vs ys → CarriedAll vs ((ys.map id).map PyData.str)
  | _, _, .nil => .nil
  | _, _, .cons y t r => .cons (.str y t) (carried_of r)
omit H in
theorem pstrM_ok {A : Around} {h₀ : Heap} {L : Addr} {m : Str → Option Value} {s : Shared} {D : List Addr} {I : Led} {Q : Value → Shared → Prop} {E : Value → Shared → Prop} {x : Str} {t : Tok} {name : Str} {vs : List PV} {vals : List Value} {v : PV}
    (h : pstrM O x name vs σ = some (v, σ', C)) (hc : ∀ c ∈ C, c.holds W) (V : VRs W.K I D vals vs) (F : Fr h₀ L s.heap m) (S : W.S h₀ L s.heap σ D I) (hR : Ret W h₀ L m D I s σ' v Q) :
    (name = "count" ∧ wpAny W.M A (call (.builtin "str.count") (.str x t :: vals)) Q E s) ∨ (name = "split" ∧ wpAny W.M A (call (.builtin "str.split") (.str x t :: vals)) Q E s) ∨ (name = "join" ∧ wpAny W.M A (call (.builtin "str.join") (.str x t :: vals)) Q E s) := by
  unfold pstrM at h
  split at h
  · rename_i hn
    refine .inl ⟨beq_iff_eq.mp hn, ?_⟩
    split at h
    · cases h
      cases V with
      | cons V1 V2 =>
        cases V2
        cases V1 with
        | str _ u => exact SC.count (hR.here F S (.int _ _) _)
    · cases h
  · split at h
    · rename_i hn
      refine .inr (.inl ⟨beq_iff_eq.mp hn, ?_⟩)
      split at h
      · split at h
        · rename_i hy
          split at h
          · rename_i c hb
            cases h
            cases V with
            | cons V1 V2 =>
              cases V2
              cases V1 with
              | str y u =>
                obtain ⟨os, N, Os, nd, ap⟩ := S
                refine KSpl.split1 F N (by simpa using hy) (fun d l h' k e _ F' N' lt => ?_) (by have := chk_ok hb hc; have e : sizeLine = sizeLine := rfl; exact Nat.le_trans (Nat.add_le_add_right this 2) (by decide))
                have off := St.off (W := W) Os lt
                rw [← e] at hR
                exact hR (.ref d) h' k (D ++ [d]) I F' (St.more_of Os nd ap off.1 off.2 (.list (vrs_strs l)) N') Ext.snoc (.obj (by rw [← Os.len.2]; exact get_snoc))
          · cases h
        · cases h
      · cases h
    · split at h
      · rename_i hn
        refine .inr (.inr ⟨beq_iff_eq.mp hn, ?_⟩)
        split at h
        · split at h
          · rename_i l el
            split at h
            · rename_i hx
              split at h
              · rename_i ys hy
                cases h
                obtain ⟨h1, h2, h3⟩ := hc _ (.head _)
                cases V with
                | cons V1 V2 =>
                  cases V2
                  obtain ⟨d, ws, n, _, rfl, ho, rr, hd, _, _, _⟩ := list_at S V1 el
                  refine KT.join_B (α := Str) (g := id) (l := ys) 10 (ys := ws) ⟨_, ho, rfl, _, rfl⟩ ?_ h2 (by omega) (by have := Nat.le_of_ble_eq_true hx; omega) fun t' k => ?_
                  · have := carried_of (strsOf_ok h1 rr)
                    rw [List.map_id] at this
                    exact this
                  · rw [List.map_id]
                    exact hR.here F S (.str _ _) _
              · cases h
            · cases h
          · cases h
        · cases h
      · cases h

omit H in
theorem pstrM_name {x name : Str} {vs : List PV} {v : PV} (h : pstrM O x name vs σ = some (v, σ', C)) : name = "count" ∨ name = "split" ∨ name = "join" := by
  unfold pstrM at h
  split at h
  · rename_i hn; exact .inl (beq_iff_eq.mp hn)
  · split at h
    · rename_i hn; exact .inr (.inl (beq_iff_eq.mp hn))
    · split at h
      · rename_i hn; exact .inr (.inr (beq_iff_eq.mp hn))
      · cases h
theorem snd_m {ov : PV} {x : Str} {as : List PySem.Expr} {v : PV} (h : pmeth W.Tb O (n + 1) k cs ρ ov x as σ = some (v, σ', C)) (hc : ∀ c ∈ C, c.holds W) : MOK W k cs ρ ov x as σ v σ' := by
  intro A env h₀ L m D I s pos pl vo hn ec F S Vo Q hR
  rw [pmeth_succ] at h; unfold pmethF at h
  split at h
  · split at h
    · rename_i f hm
      split at h
      · rename_i l el
        split at h
        · rename_i hl
          refine bind_elim h hc fun vs σ₁ c₁ c₂ h1 hc1 h2 hc2 => ?_
          obtain ⟨y, d, es, nn, os, rfl, J, r, hd, eo, N, up⟩ := inst_at S Vo el
          obtain ⟨g1, g2, g3, g4⟩ := ec.ok.meth _ _ _ hm
          refine method_inst F ec.gd.X J g1 g2 g3 ((ers_get r).2.2.2 hl) ?_
          refine callW hn (keeps_K g4) (H.l _ _ _ _ _ _ _ _ h1 hc1 A env h₀ L m D I s pos ec F S _ fun vals ha ta Da Ia Fa Sa xa Va => ?_)
          refine ⟨ec.gd.X.keeps Fa.keep, ?_⟩
          have hcx : Cx W k A env h₀ L := by
            rcases ec.cx with rfl | c
            · exfalso
              cases n with
              | zero => exact no_some h2
              | succ n => exact no_some h2
            · exact c
          exact Ret.call (H.c ec.ok _ _ _ _ _ _ _ h2 hc2 A env h₀ L m Da Ia _ _ ec.gd ec.hh ec.un hcx Fa Sa (.cons (Vo.mono xa) Va)) (hR.later xa)
        · cases h
      · cases h
    · cases h
  · rename_i i
    split at h
    · rename_i l el
      obtain ⟨d, vs, nn, os, rfl, ho, rr, hd, eo, N, up⟩ := list_at S Vo el
      have hm : (d, listOf (List.toArray vs) nn) ∈ D.zip os ++ I := List.mem_append_left _ (mem_zip_get hd eo)
      split at h
      · rename_i hx
        have ex : x = _ := beq_iff_eq.mp hx
        subst ex
        refine bind_elim h hc fun us σ₁ c₁ c₂ h1 hc1 h2 hc2 => ?_
        refine listMethod_K N hm PySem.F.slot_list_append PySem.F.type_list_append ?_
        refine callW hn keeps_builtin (H.l _ _ _ _ _ _ _ _ h1 hc1 A env h₀ L m D I s pos ec F S _ fun vals ha ta Da Ia Fa Sa xa Va => ⟨trivial, ?_⟩)
        split at h2
        · cases Va with
          | cons V1 V2 =>
            cases V2
            exact pappend_ok h2 hc2 (Vo.mono xa) V1 Fa Sa (hR.later xa)
        · cases h2
      · split at h
        · rename_i hx
          have ex : x = _ := beq_iff_eq.mp hx
          subst ex
          refine bind_elim h hc fun us σ₁ c₁ c₂ h1 hc1 h2 hc2 => ?_
          refine listMethod_K N hm PySem.F.slot_list_pop PySem.F.type_list_pop ?_
          refine callW hn keeps_builtin (H.l _ _ _ _ _ _ _ _ h1 hc1 A env h₀ L m D I s pos ec F S _ fun vals ha ta Da Ia Fa Sa xa Va => ⟨trivial, ?_⟩)
          split at h2
          · cases Va
            exact ppop_ok h2 hc2 (Vo.mono xa) Fa Sa (hR.later xa)
          · cases h2
        · cases h
    · rename_i l el
      obtain ⟨d, o, vs, os, rfl, lo, ho, hdi, r, hd, eo, N, up⟩ := dict_at S Vo el
      have hdo : s.heap.DictOf (PySem.strKind W.prog W.w) d vs := Heap.dictOf_iff.mpr ⟨o, ho, hdi⟩
      split at h
      · rename_i hx
        have ex : x = _ := beq_iff_eq.mp hx
        subst ex
        refine bind_elim h hc fun us σ₁ c₁ c₂ h1 hc1 h2 hc2 => ?_
        refine getMethod_builtin hdo.typeIs PySem.F.plainAttrs_dict PySem.F.slot_dict_get PySem.F.type_dict_get hdo.mapOf.noDict ?_
        refine callW hn keeps_builtin (H.l _ _ _ _ _ _ _ _ h1 hc1 A env h₀ L m D I s pos ec F S _ fun vals ha ta Da Ia Fa Sa xa Va => ⟨trivial, ?_⟩)
        split at h2
        · cases Va with
          | cons V1 V2 =>
            cases V2 with
            | cons V2 V3 =>
              cases V3
              exact pdictGet_ok h2 (Vo.mono xa) V1 V2 Fa Sa (hR.later xa)
        · cases h2
      · cases h
    · cases h
  · rename_i x
    cases Vo with
    | str _ t =>
    refine bind_elim h hc fun us σ₁ c₁ c₂ h1 hc1 h2 hc2 => ?_
    have go : ∀ b : String, (∀ {vals : List Value} {ha : Heap} {ta : Nat} {Da : List Addr} {Ia : Led}, Fr h₀ L ha m → W.S h₀ L ha σ₁ Da Ia → Ext D I Da Ia → VRs W.K Ia Da vals us → wpAny W.M A (call (.builtin b) ([.str x t] ++ vals)) Q ff { s with heap := ha, toks := ta }) →
        wpAny W.M A (callWith pos (.builtin b) [.str x t] (backTo pos (starEach as env)) []) Q ff s := fun b hb =>
      callW hn keeps_builtin (H.l _ _ _ _ _ _ _ _ h1 hc1 A env h₀ L m D I s pos ec F S _ fun vals ha ta Da Ia Fa Sa xa Va => ⟨trivial, hb Fa Sa xa Va⟩)
    have alt : ∀ {vals : List Value} {ha : Heap} {ta : Nat} {Da : List Addr} {Ia : Led}, Fr h₀ L ha m → W.S h₀ L ha σ₁ Da Ia → Ext D I Da Ia → VRs W.K Ia Da vals us → _ := fun {vals ha ta Da Ia} Fa Sa xa Va =>
      pstrM_ok (A := A) (E := ff) (x := x) (t := t) (s := { s with heap := ha, toks := ta }) h2 hc2 Va Fa Sa (hR.later xa)
    have nm : _ = _ ∨ _ = _ ∨ _ = _ := pstrM_name h2
    rcases nm with rfl | rfl | rfl
    · refine GM.count (go "str.count" fun {vals ha ta Da Ia} Fa Sa xa Va => ?_)
      rcases alt (ta := ta) Fa Sa xa Va with ⟨_, q⟩ | ⟨e, _⟩ | ⟨e, _⟩
      · exact q
      · exact absurd e (by decide)
      · exact absurd e (by decide)
    · refine GM.split (go "str.split" fun {vals ha ta Da Ia} Fa Sa xa Va => ?_)
      rcases alt (ta := ta) Fa Sa xa Va with ⟨e, _⟩ | ⟨_, q⟩ | ⟨e, _⟩
      · exact absurd e (by decide)
      · exact q
      · exact absurd e (by decide)
    · refine GM.join (go "str.join" fun {vals ha ta Da Ia} Fa Sa xa Va => ?_)
      rcases alt (ta := ta) Fa Sa xa Va with ⟨e, _⟩ | ⟨e, _⟩ | ⟨_, q⟩
      · exact absurd e (by decide)
      · exact absurd e (by decide)
      · exact q
  · cases h
end
end Mine
end D6
section D7
namespace Mine
open PM

theorem Cx.of {W : Wd} {k : Nat} {A : Around} {env : Env} {h₀ : Heap} {L : Addr} {m : Str → Option Value} {D : List Addr} {I : Led} {cs : Scope} {ρ : Loc} (ec : EC W k A env h₀ L m D I cs ρ) (h : k ≠ 0) : Cx W k A env h₀ L :=
  ec.cx.elim (fun e => absurd e h) id
theorem Cx.lower {W : Wd} {k j : Nat} {A : Around} {env : Env} {h₀ : Heap} {L : Addr} (c : Cx W k A env h₀ L) (h : j ≤ k) : Cx W j A env h₀ L :=
  ⟨c.B, c.ef, c.ek, by have := c.dep; omega⟩
theorem lookup_zip {W : Wd} {I : Led} {D : List Addr} {x : Str} {pv : PV} : ∀ {ps : List Str} {vals : List Value} {vs : List PV}, VRs W.K I D vals vs → ps.Nodup → (ps.zip vs).lookup x = some pv → ∃ v, (ps.zip vals).lookup x = some v ∧ W.V I D v pv
  | [], _, _, _, _, h => by cases h
  | _ :: _, _, _, .nil, _, h => by cases h
  | p :: ps, _, _, .cons (v := v) (p := q) V r, nd, h => by
    rw [List.zip_cons_cons, List.lookup_cons] at h
    rw [List.zip_cons_cons, List.lookup_cons]
    cases e : x == p with
    | true => rw [e] at h; cases h; exact ⟨v, rfl, V⟩
    | false => rw [e] at h; exact lookup_zip r (List.nodup_cons.mp nd).2 h
theorem lookup_mem {α : Type} {x : Str} {v : α} : ∀ {l : List (Str × α)}, l.lookup x = some v → (x, v) ∈ l
  | (y, u) :: r, h => by
    rw [List.lookup_cons] at h
    cases e : x == y with
    | true => rw [e] at h; cases h; rw [beq_iff_eq.mp e]; exact .head _
    | false => rw [e] at h; exact .tail _ (lookup_mem h)
theorem lookup_of_mem' {α : Type} {x : Str} {v : α} : ∀ {l : List (Str × α)}, (l.map (·.1)).Nodup → (x, v) ∈ l → l.lookup x = some v
  | (y, u) :: r, nd, h => by
    rw [List.lookup_cons]
    have nd' : y ∉ r.map (·.1) ∧ (r.map (·.1)).Nodup := List.nodup_cons.mp nd
    rcases List.mem_cons.mp h with e | h
    · cases e; simp
    · have hne : ¬ x = y := fun e => nd'.1 (e ▸ List.mem_map_of_mem (f := Prod.fst) h)
      have : (x == y) = false := by simpa using hne
      rw [this]
      exact lookup_of_mem' nd'.2 h
theorem lookup_reverse {α : Type} {x : Str} {v : α} {l : List (Str × α)} (nd : (l.map (·.1)).Nodup) (h : l.lookup x = some v) : l.reverse.lookup x = some v :=
  lookup_of_mem' (by rw [List.map_reverse]; exact (List.reverse_perm _).nodup_iff.mpr nd) (List.mem_reverse.mpr (lookup_mem h))
theorem zip_names {α : Type} : ∀ {ps : List Str} {vs : List α}, vs.length = ps.length → (ps.zip vs).map (·.1) = ps
  | [], [], _ => rfl
  | p :: ps, v :: vs, h => by simp [zip_names (ps := ps) (vs := vs) (by simpa using h)]

theorem under_frames (A : Around) (C : Addr) (vals : List Value) : (A.under (.builtin "type.__call__" ⟨.ref C :: vals, []⟩)).frames = A.frames := rfl
theorem under_handled (A : Around) (c : Code) : (A.under c).handled = A.handled := rfl

section
variable {W : Wd} {O : Orc} {n : Nat} (H : Snd W O n)
include H
variable {k : Nat} {cs : Scope} {ρ : Loc} {σ σ' : List PO} {C : List Con}

theorem snd_c (ok : TabOk W) {f : Addr} {vs : List PV} {v : PV} (h : pcall W.Tb O (n + 1) k f vs σ = some (v, σ', C)) (hc : ∀ c ∈ C, c.holds W) : COK W k f vs σ v σ' := by
  cases k with
  | zero => exact no_some h
  | succ j =>
    rw [pcall_succ] at h; unfold pcallF at h
    dsimp only at h
    cases ho : O.call f vs σ with
    | some q =>
      rw [ho] at h
      cases h
      exact hc _ (.head _)
    | none =>
      rw [ho] at h
      cases hf : W.Tb.fn f with
      | none => rw [hf] at h; cases h
      | some F =>
        rw [hf] at h
        dsimp only at h
        cases hl : Nat.beq vs.length F.params.length with
        | false => rw [hl] at h; cases h
        | true =>
          rw [hl] at h
          dsimp only at h
          have hl := Nat.eq_of_beq_eq_true hl
          have key : ∃ fl ρ', pxs W.Tb O n j F.scope (F.params.zip vs) F.body σ = some ((fl, ρ'), σ', C) ∧ (fl = .ret v ∨ (fl = .next ∧ v = .none)) := by
            split at h
            · rename_i e; cases h; exact ⟨_, _, e, .inl rfl⟩
            · rename_i e; cases h; exact ⟨_, _, e, .inr ⟨rfl, rfl⟩⟩
            · cases h
          obtain ⟨fl, ρ', hx, hfl⟩ := key
          intro A env h₀ L m D I s vals gd hh un cx Fm S V R hR
          obtain ⟨⟨name, params, dV, kV, doc, pm, an, cdv, ct, oc, od, osl, q1, q2, q3⟩, loc, nd, co, gen, kd, cell, keep⟩ := ok.fn f F hf
          obtain ⟨A₀, base, outer, B, hA⟩ := cx.B
          obtain ⟨os, N, Os, ndD, ap⟩ := S
          have hlen : vals.length = F.params.length := V.length.trans hl
          refine code_def B Fm gd.X N gd.T hA cx.ef cx.ek q1 q2 (by have := cx.dep; omega) (BindsTo.of_eq (q3 vals hlen)) (fun y hy => loc _ (List.of_mem_zip hy).1) (fun g L' h₁ Fg F' N' B' X' T' => ?_) co gen kd cell
          have x1 : XC W j (A.deeper (envOf F.qual F.scope L' f cdv)) (envX F.qual F.scope L' f cdv []) g L' F.scope [] :=
            ⟨ok, ⟨X', T'⟩, hh, by rw [units_deeper]; omega, ⟨⟨A, base, env :: outer, B', by show A.frames.map _ = _; rw [hA]; rfl⟩, rfl, kd, by rw [depth_deeper]; have := cx.dep; omega⟩, ⟨_, _, _, rfl⟩, kd⟩
          refine wpAny_mono (H.ss _ _ _ _ _ _ _ _ _ hx hc _ _ g L' _ D I { s with heap := h₁, toks := s.toks + (F.params.zip vals).length } [] x1 F' ⟨os, N', Os, ndD, ap⟩ (fun y pv e => ?_) _ (fun f' h' tk' m' D' I' F'' S'' xx lr fr => ?_)) (fun _ _ q => q) (fun _ _ q => q.elim)
          · have hm := (List.of_mem_zip (lookup_mem e)).1
            rw [loc y hm]
            obtain ⟨v', e', V'⟩ := lookup_zip V nd e
            exact ⟨v', lookup_reverse (by rw [zip_names hlen]; exact nd) e', V'⟩
          · obtain ⟨os', N'', r⟩ := S''
            refine leaveK_ F'' N'' fun Fh Nh => ?_
            have hS : W.S h₀ L h' σ' D' I' := ⟨os', Nh, r⟩
            rcases hfl with rfl | ⟨rfl, rfl⟩
            · cases f' with
              | ret u => exact hR u h' tk' D' I' Fh hS xx fr
              | _ => exact fr.elim
            · cases f' with
              | next => exact hR .none h' tk' D' I' Fh hS xx .none
              | _ => exact fr.elim

omit H in
theorem papB_ok {A : Around} {h₀ : Heap} {L : Addr} {m : Str → Option Value} {s : Shared} {D : List Addr} {I : Led} {Q : Value → Shared → Prop} {E : Value → Shared → Prop} {b : String} {vs : List PV} {vals : List Value} {v : PV} (ok : TabOk W)
    (h : papB W.Tb O b vs σ = some (v, σ', C)) (hc : ∀ c ∈ C, c.holds W) (V : VRs W.K I D vals vs) (X : W.K.In s.heap) (F : Fr h₀ L s.heap m) (S : W.S h₀ L s.heap σ D I) (hR : Ret W h₀ L m D I s σ' v Q) : wpAny W.M A (call (.builtin b) vals) Q E s := by
  unfold papB at h
  split at h
  · rename_i hb
    have e : b = _ := beq_iff_eq.mp hb
    subst e
    split at h
    · cases V with
      | cons V1 V2 => cases V2; exact plen_ok h hc V1 F S hR
    · cases h
  · split at h
    · rename_i hb
      have e : b = _ := beq_iff_eq.mp hb
      subst e
      split at h
      · cases V with
        | cons V1 V2 =>
          cases V2 with
          | cons V2 V3 => cases V3; exact pisi_ok ok h V1 V2 X F S hR
      · cases h
    · split at h
      · rename_i hb
        have e : b = _ := beq_iff_eq.mp hb
        subst e
        split at h
        · cases h
          cases V with
          | cons V1 V2 =>
            cases V2
            cases V1 with
            | int _ t => exact call_abs_int fun u tk => hR.here F S (.int _ u) tk
        · cases h
      · cases h
omit H in
theorem log_small {n : Nat} (h : n ≤ 10000) : n.log2 < 1920 := by
  by_cases h0 : n = 0
  · subst h0; decide +kernel
  · exact Nat.lt_trans ((Nat.log2_lt h0).mpr (Nat.lt_of_le_of_lt h (show 10000 < 2 ^ 14 by decide))) (by decide)
omit H in
theorem papT_ok {A : Around} {h₀ : Heap} {L : Addr} {m : Str → Option Value} {s : Shared} {D : List Addr} {I : Led} {Q : Value → Shared → Prop} {E : Value → Shared → Prop} {b : String} {vs : List PV} {vals : List Value} {v : PV}
    (h : papT O b vs σ = some (v, σ', C)) (hc : ∀ c ∈ C, c.holds W) (V : VRs W.K I D vals vs) (F : Fr h₀ L s.heap m) (S : W.S h₀ L s.heap σ D I) (hR : Ret W h₀ L m D I s σ' v Q) : wpAny W.M A (call (.type b) vals) Q E s := by
  unfold papT at h
  split at h
  · rename_i hb
    have e : b = _ := beq_iff_eq.mp hb
    subst e
    split at h
    · cases h
      cases V with
      | cons V1 V2 =>
        cases V2
        cases V1 with
        | int _ t => exact call_int_int (hR.at F S (.int _ t))
    · cases h
  · split at h
    · rename_i hb
      have e : b = _ := beq_iff_eq.mp hb
      subst e
      split at h
      · split at h
        · rename_i hb
          cases h
          cases V with
          | cons V1 V2 =>
            cases V2
            cases V1 with
            | int i t =>
              refine PySem.P.str_of_int ?_ (hR.here F S (.str _ _) _)
              exact log_small (chk_ok hb hc)
        · cases h
      · cases h
    · cases h

theorem snd_a {fv : PV} {as : List PySem.Expr} {v : PV} (h : papp W.Tb O (n + 1) k cs ρ fv as σ = some (v, σ', C)) (hc : ∀ c ∈ C, c.holds W) : AOK W k cs ρ fv as σ v σ' := by
  intro A env h₀ L m D I s pos vf hn ec F S Vf Q hR
  rw [papp_succ] at h; unfold pappF at h
  split at h
  · rename_i f
    cases Vf
    cases hf : W.Tb.fn f with
    | some Fn =>
      rw [hf] at h
      refine bind_elim h hc fun vs σ₁ c₁ c₂ h1 hc1 h2 hc2 => ?_
      refine callW (first := []) hn (keeps_K (ec.ok.fn f Fn hf).keep) (H.l _ _ _ _ _ _ _ _ h1 hc1 A env h₀ L m D I s pos ec F S _ fun vals ha ta Da Ia Fa Sa xa Va => ⟨ec.gd.X.keeps Fa.keep, ?_⟩)
      have hk : k ≠ 0 := by
        rintro rfl
        cases n with
        | zero => exact no_some h2
        | succ n => exact no_some h2
      exact Ret.call (H.c ec.ok _ _ _ _ _ _ _ h2 hc2 A env h₀ L m Da Ia _ _ ec.gd ec.hh ec.un (Cx.of ec hk) Fa Sa Va) (hR.later xa)
    | none =>
      rw [hf] at h
      dsimp only at h
      cases hi : W.Tb.ini f with
      | none => rw [hi] at h; cases h
      | some fI =>
        rw [hi] at h
        refine bind_elim h hc fun vs σ₁ c₁ c₂ h1 hc1 h2 hc2 => ?_
        obtain ⟨g1, g2, g3, g4⟩ := ec.ok.ini f fI hi
        refine callW (first := []) hn (keeps_K g4) (H.l _ _ _ _ _ _ _ _ h1 hc1 A env h₀ L m D I s pos ec F S _ fun vals ha ta Da Ia Fa Sa xa Va => ⟨ec.gd.X.keeps Fa.keep, ?_⟩)
        cases k with
        | zero => cases h2
        | succ j =>
          dsimp only at h2
          have key : pcall W.Tb O n j fI (.inst f σ₁.length :: vs) (σ₁ ++ [.attrs []]) = some (.none, σ', c₂) ∧ v = .inst f σ₁.length := by
            split at h2
            · rename_i e; cases h2; exact ⟨e, rfl⟩
            · cases h2
          obtain ⟨hcall, rfl⟩ := key
          have cx := Cx.of ec (Nat.succ_ne_zero j)
          obtain ⟨os, N, Os, ndD, ap⟩ := Sa
          refine call_cls Fa ec.gd.X N g1 g2 g3 fun x dx h' F' N' lt1 lt2 => ?_
          have nD : ∀ a ∈ Da, a < dx := fun a ha => by
            obtain ⟨i, hi, e⟩ := List.getElem_of_mem ha
            have h1 : Da[i]? = some a := by rw [List.getElem?_eq_getElem hi, e]
            have hl := Os.len.1
            have h2 : os[i]? = some os[i] := by rw [List.getElem?_eq_getElem (by omega)]
            exact lt1 _ (List.mem_append_left _ (mem_zip_get h1 h2))
          have nI : ∀ p ∈ Ia, p.1 < dx := fun p hp => lt1 p (List.mem_append_right _ hp)
          have xx : Ext Da Ia (Da ++ [dx]) ((x, instObj f dx) :: Ia) := Ext.trans Ext.snoc Ext.imm
          have S' : W.S h₀ L h' (σ₁ ++ [.attrs []]) (Da ++ [dx]) ((x, instObj f dx) :: Ia) := by
            refine ⟨os ++ [dictOf [] 0], fun p hp => N' p ?_, (Os.mono xx).snoc (.attrs .nil), ?_, fun p hp hm => ?_⟩
            · rcases List.mem_append.mp hp with q | q
              · rw [List.zip_append Os.len.1] at q
                rcases List.mem_append.mp q with q | q
                · exact .tail _ (.tail _ (List.mem_append_left _ q))
                · rw [List.mem_singleton.mp q]; exact .tail _ (.head _)
              · rcases List.mem_cons.mp q with rfl | q
                · exact .head _
                · exact .tail _ (.tail _ (List.mem_append_right _ q))
            · rw [List.nodup_append]
              refine ⟨ndD, by simp, fun a ha b hb => ?_⟩
              rw [List.mem_singleton.mp hb]
              exact Nat.ne_of_lt (nD a ha)
            · rcases List.mem_cons.mp hp with rfl | hp
              · rcases List.mem_append.mp hm with q | q
                · exact absurd (Nat.lt_trans (nD _ q) lt2) (Nat.lt_irrefl _)
                · have e : x = dx := List.mem_singleton.mp q
                  exact absurd lt2 (by rw [e]; exact Nat.lt_irrefl _)
              · rcases List.mem_append.mp hm with q | q
                · exact ap p hp q
                · exact absurd (nI p hp) (by rw [List.mem_singleton.mp q]; exact Nat.lt_irrefl _)
          have Vi : W.V ((x, instObj f dx) :: Ia) (Da ++ [dx]) (.ref x) (.inst f σ₁.length) := .inst (.head _) (by have := Os.len.2; rw [← this]; exact get_snoc)
          have cx' : Cx W j (A.under (.builtin "type.__call__" ⟨.ref f :: vals, []⟩)) env h₀ L := by
            obtain ⟨A₀, base, outer, B, hA⟩ := cx.B
            exact ⟨⟨A₀, base, outer, B, hA⟩, cx.ef, cx.ek, by rw [depth_under_make]; have := cx.dep; omega⟩
          refine H.c ec.ok _ _ _ _ _ _ _ hcall hc2 (A.under (.builtin "type.__call__" ⟨.ref f :: vals, []⟩)) env h₀ L m _ _ { s with heap := h', toks := ta } _ ec.gd (show (A.under _).handled = none from ec.hh) (by rw [units_under_make]; have := ec.un; omega) cx' F' S' (.cons Vi (Va.mono xx)) _ ?_
          intro val h'' tk'' D'' I'' F'' S'' x'' V''
          cases V''
          exact ⟨rfl, hR (.ref x) h'' tk'' D'' I'' F'' S'' ((xa.trans xx).trans x'') (Vi.mono x'')⟩
  · cases Vf
    refine bind_elim h hc fun vs σ₁ c₁ c₂ h1 hc1 h2 hc2 => ?_
    refine callW (first := []) hn keeps_builtin (H.l _ _ _ _ _ _ _ _ h1 hc1 A env h₀ L m D I s pos ec F S _ fun vals ha ta Da Ia Fa Sa xa Va => ⟨trivial, ?_⟩)
    exact papB_ok ec.ok h2 hc2 Va (ec.gd.X.keeps Fa.keep) Fa Sa (hR.later xa)
  · cases Vf
    refine bind_elim h hc fun vs σ₁ c₁ c₂ h1 hc1 h2 hc2 => ?_
    refine callW (P := fun _ => True) (first := []) hn (fun h _ => ⟨.machine, .inr (.inl rfl), Looks.now⟩) (H.l _ _ _ _ _ _ _ _ h1 hc1 A env h₀ L m D I s pos ec F S _ fun vals ha ta Da Ia Fa Sa xa Va => ⟨trivial, ?_⟩)
    exact papT_ok h2 hc2 Va Fa Sa (hR.later xa)
  · cases h
end
end Mine
end D7
section D8
namespace Mine
open PM


section
variable {W : Wd} {O : Orc} {n : Nat} (H : Snd W O n)
include H
variable {k : Nat} {cs : Scope} {ρ : Loc} {σ σ' : List PO} {C : List Con}

omit H in
theorem call_eq {f : PySem.Expr} {args : List PySem.Expr} {pos : Pos} {env : Env} (h : ∀ o x p, f ≠ .Attribute o x p) :
    eval (.Call f args [] pos) env = (do callWith pos (← eval f env) [] (backTo pos (starEach args env)) (backToKw pos (keywordEach [] env))) := by
  cases f <;> first | rfl | exact absurd rfl (h _ _ _)
omit H in
theorem newTuple_ok {A : Around} {h₀ : Heap} {L : Addr} {m : Str → Option Value} {D : List Addr} {I : Led} {s : Shared} {Q : Value → Shared → Prop} {E : Value → Shared → Prop} {vals : List Value} {vs : List PV} (hl : Nat.ble vs.length 1000 = true)
    (V : VRs W.K I D vals vs) (F : Fr h₀ L s.heap m) (S : W.S h₀ L s.heap σ D I) (hR : Ret W h₀ L m D I s σ (.tup vs) Q) : wpAny W.M A (newTuple vals) Q E s := by
  obtain ⟨os, N, Os, nd, ap⟩ := S
  refine newTuple_N F N (fun h' F' N' => ?_) (by rw [V.length]; exact le_big hl)
  have off := St.off (W := W) Os (q := s.heap.objs.size) fun p hp => Heap.lt_size (N p hp).1
  exact hR (.ref s.heap.objs.size) h' s.toks D ((s.heap.objs.size, tupObj vals) :: I) F' (St.imm_of Os nd ap off.1 N') Ext.imm (.tup (.head _) (V.mono Ext.imm))
omit H in
theorem newList_ok {A : Around} {h₀ : Heap} {L : Addr} {m : Str → Option Value} {D : List Addr} {I : Led} {s : Shared} {Q : Value → Shared → Prop} {E : Value → Shared → Prop} {vals : List Value} {vs : List PV} (hl : Nat.ble vs.length 1000 = true)
    (V : VRs W.K I D vals vs) (F : Fr h₀ L s.heap m) (S : W.S h₀ L s.heap σ D I) (hR : Ret W h₀ L m D I s (σ ++ [.list vs]) (.obj σ.length) Q) : wpAny W.M A (newList vals) Q E s := by
  obtain ⟨os, N, Os, nd, ap⟩ := S
  refine newList_K F N (fun l h' F' N' lt => ?_) (by rw [V.length]; exact le_big hl)
  have off := St.off (W := W) Os lt
  exact hR (.ref l) h' s.toks (D ++ [l]) I F' (St.more_of Os nd ap off.1 off.2 (.list (V.mono Ext.snoc)) N') Ext.snoc (.obj (by rw [← Os.len.2]; exact get_snoc))

theorem snd_e {e : PySem.Expr} {v : PV} (h : pe W.Tb O (n + 1) k cs ρ e σ = some (v, σ', C)) (hc : ∀ c ∈ C, c.holds W) : EOK W k cs ρ e σ v σ' := by
  intro A env h₀ L m D I s ec F S Q hR
  rw [pe_succ] at h; unfold peF at h
  split at h
  · unfold pconst at h
    split at h
    · cases h; exact Constant_none (hR.at F S .none)
    · cases h; exact Constant_bool (hR.at F S (.bool _))
    · cases h; exact wpAny_Constant_int (hR.here F S (.int _ _) _)
    · cases h; exact Calls.Constant_str (hR.here F S (.str _ _) _)
    · cases h
  · unfold pname at h
    split at h
    · rename_i e
      cases h
      exact ec.nm _ _ e _ s σ D I Ext.refl F S _ fun v V => hR.at F S V
    · cases h
  · refine bind_elim h hc fun a σ₁ c₁ c₂ h1 hc1 h2 hc2 => ?_
    refine bind_elim h2 hc2 fun b σ₂ c₃ c₄ h3 hc3 h4 hc4 => ?_
    refine wpAny_BinOp (H.e _ _ _ _ _ _ _ _ h1 hc1 A env h₀ L m D I s ec F S _ fun va ha ta Da Ia Fa Sa xa Va => ?_)
    refine H.e _ _ _ _ _ _ _ _ h3 hc3 A env h₀ L m Da Ia _ (ec.later xa) Fa Sa _ fun vb hb tb Db Ib Fb Sb xb Vb => ?_
    exact pbin_ok h4 hc4 (Va.mono xb) Vb Fb Sb (hR.later (xa.trans xb))
  · refine bind_elim h hc fun a σ₁ c₁ c₂ h1 hc1 h2 hc2 => ?_
    refine UnaryOp_ (H.e _ _ _ _ _ _ _ _ h1 hc1 A env h₀ L m D I s ec F S _ fun va ha ta Da Ia Fa Sa xa Va => ?_)
    cases a with
    | int i =>
      cases h2
      cases Va
      exact neg_int ((hR.later xa).here Fa Sa (.int _ _) _)
    | _ => cases h2
  · refine bind_elim h hc fun b σ₁ c₁ c₂ h1 hc1 h2 hc2 => ?_
    refine IfExp_ (H.t _ _ _ _ _ _ _ _ h1 hc1 A env h₀ L m D I s ec F S _ fun ha ta Da Ia Fa Sa xa => ?_)
    cases b with
    | true => exact H.e _ _ _ _ _ _ _ _ h2 hc2 A env h₀ L m Da Ia _ (ec.later xa) Fa Sa _ (hR.later xa)
    | false => exact H.e _ _ _ _ _ _ _ _ h2 hc2 A env h₀ L m Da Ia _ (ec.later xa) Fa Sa _ (hR.later xa)
  · rename_i l op r p
    cases hm : behindInMarks op r with
    | true => rw [hm] at h; cases h
    | false =>
      rw [hm] at h
      refine bind_elim h hc fun a σ₁ c₁ c₂ h1 hc1 h2 hc2 => ?_
      refine bind_elim h2 hc2 fun b σ₂ c₃ c₄ h3 hc3 h4 hc4 => ?_
      refine wpAny_Compare1 (H.e _ _ _ _ _ _ _ _ h1 hc1 A env h₀ L m D I s ec F S _ fun va ha ta Da Ia Fa Sa xa Va => ?_) hm
      refine H.e _ _ _ _ _ _ _ _ h3 hc3 A env h₀ L m Da Ia _ (ec.later xa) Fa Sa _ fun vb hb tb Db Ib Fb Sb xb Vb => ?_
      exact pcmp_ok h4 hc4 (Va.mono xb) Vb (ec.gd.X.keeps Fb.keep) (by have := ec.un; omega) Fb Sb (hR.later (xa.trans xb))
  · refine bind_elim h hc fun vs σ₁ c₁ c₂ h1 hc1 h2 hc2 => ?_
    refine Tuple_ (H.l _ _ _ _ _ _ _ _ h1 hc1 A env h₀ L m D I s _ ec F S _ fun vals ha ta Da Ia Fa Sa xa Va => ?_)
    cases hl : Nat.ble vs.length 1000 with
    | false => rw [hl] at h2; cases h2
    | true => rw [hl] at h2; cases h2; exact newTuple_ok hl Va Fa Sa (hR.later xa)
  · refine bind_elim h hc fun vs σ₁ c₁ c₂ h1 hc1 h2 hc2 => ?_
    refine List_ (H.l _ _ _ _ _ _ _ _ h1 hc1 A env h₀ L m D I s _ ec F S _ fun vals ha ta Da Ia Fa Sa xa Va => ?_)
    unfold pnewList at h2
    split at h2
    · rename_i hl; cases h2; exact newList_ok hl Va Fa Sa (hR.later xa)
    · cases h2
  · cases h
    obtain ⟨os, N, Os, nd, ap⟩ := S
    refine newDict_K F N ec.gd.T.nolimit fun d h' o F' N' lt lo hd _ _ _ => ?_
    have off := St.off (W := W) Os lt
    exact hR (.ref d) h' s.toks (D ++ [d]) I F' (St.more_of Os nd ap off.1 off.2 (.dict lo hd .nil) N') Ext.snoc (.obj (by rw [← Os.len.2]; exact get_snoc))
  · rename_i x k1 p1 y k2 p2 p3
    cases h
    obtain ⟨os, N, Os, nd, ap⟩ := S
    refine wpAny_Dict_pairs (knd := PySem.strKind W.prog W.w) (pairs := [(eval (.Constant (.str x) k1 p1) env, do let v ← eval (.Constant (.str y) k2 p2) env; standAt p3; pure v)]) rfl (by simp) (Nat.le_of_ble_eq_true rfl) ?_
    unfold evalPairs
    refine wpAny_bind (Calls.Constant_str ?_)
    refine wpAny_bind (wpAny_holding (wpAny_bind (Calls.Constant_str (wpAny_bind (wpAny_standAt (wpAny_pure ?_))))))
    unfold evalPairs
    refine wpAny_bind (wpAny_holding (wpAny_pure (wpAny_pure ?_)))
    refine display_done_str rfl (by simp [strPairs]) (Heap.DictOf.new (knd := PySem.strKind W.prog W.w) s.heap) fun h' hm hs => ?_
    obtain ⟨o, ho, hd⟩ := Heap.dictOf_iff.mp hm
    have off := St.off (W := W) Os (q := s.heap.objs.size) fun p hp => Heap.lt_size (N p hp).1
    exact hR (.ref s.heap.objs.size) h' _ (D ++ [s.heap.objs.size]) I (F.filled hs) (St.more_of Os nd ap off.1 off.2 (.dict (F.notModules (modules_low ec.gd.T.nolimit)) hd (.cons (.str _ _) .nil)) (N.filled F hs ho)) Ext.snoc (.obj (by rw [← Os.len.2]; exact get_snoc))
  · rename_i ev name p
    cases hb : plainBase ev with
    | false => rw [hb] at h; cases h
    | true =>
      rw [hb] at h
      refine bind_elim h hc fun o σ₁ c₁ c₂ h1 hc1 h2 hc2 => ?_
      refine Attribute_any_ (H.e _ _ _ _ _ _ _ _ h1 hc1 A env h₀ L m D I s ec F S _ fun va ha ta Da Ia Fa Sa xa Va => ?_) ?_
      · exact pget_ok ec.ok h2 Va ec.gd.X Fa Sa (hR.later xa)
      · have e1 : eval (.Attribute ev name p) env = (do
            let o ← attributeBase ev name env (eval ev env)
            standAt p.atName
            let r ← holding [o] (getAttr o name true)
            letTemporaryGo ev o r
            pure r) := rfl
        rw [e1, base_plain hb]
  · rename_i ev sl p
    cases hk : slk sl with
    | bad => rw [hk] at h; cases h
    | cut lo hi =>
      rw [hk] at h
      obtain ⟨sp, rfl⟩ : ∃ sp, sl = .Slice lo hi none sp := by
        unfold slk at hk
        split at hk
        · cases hk; exact ⟨_, rfl⟩
        · cases hk
        · cases hk
      refine bind_elim h hc fun o σ₁ c₁ c₂ h1 hc1 h2 hc2 => ?_
      refine bind_elim h2 hc2 fun l σ₂ c₃ c₄ h3 hc3 h4 hc4 => ?_
      refine bind_elim h4 hc4 fun hi σ₃ c₅ c₆ h5 hc5 h6 hc6 => ?_
      refine Subscript_ (H.e _ _ _ _ _ _ _ _ h1 hc1 A env h₀ L m D I s ec F S _ fun va ha ta Da Ia Fa Sa xa Va => ?_)
      refine wpAny_Slice (H.p _ _ _ _ _ _ _ _ h3 hc3 A env h₀ L m Da Ia _ (ec.later xa) Fa Sa _ fun vb hb tb Db Ib Fb Sb xb Vb => ?_)
      refine H.p _ _ _ _ _ _ _ _ h5 hc5 A env h₀ L m Db Ib _ ((ec.later xa).later xb) Fb Sb _ fun vd hd td Dd Id Fd Sd xd Vd => ?_
      refine evalPart_none_step ?_
      exact pslice_ok (s := { s with heap := hd, toks := td }) h6 hc6 ((Va.mono xb).mono xd) (Vb.mono xd) Vd Fd Sd (hR.later ((xa.trans xb).trans xd))
    | no =>
      rw [hk] at h
      have hn : ∀ a b q, sl ≠ .Slice a b none q := fun a b q e => by subst e; cases hk
      refine bind_elim h hc fun o σ₁ c₁ c₂ h1 hc1 h2 hc2 => ?_
      refine bind_elim h2 hc2 fun i σ₂ c₃ c₄ h3 hc3 h4 hc4 => ?_
      refine Subscript_ (H.e _ _ _ _ _ _ _ _ h1 hc1 A env h₀ L m D I s ec F S _ fun va ha ta Da Ia Fa Sa xa Va => ?_)
      refine H.e _ _ _ _ _ _ _ _ h3 hc3 A env h₀ L m Da Ia _ (ec.later xa) Fa Sa _ fun vb hb tb Db Ib Fb Sb xb Vb => ?_
      exact psub_ok h4 hn (Va.mono xb) Vb (ec.gd.X.keeps Fb.keep) Fb Sb (hR.later (xa.trans xb))
  · rename_i f args pos
    cases hf : attrOf f with
    | some q =>
      obtain ⟨o, name, apos⟩ := q
      rw [hf] at h
      obtain rfl : f = .Attribute o name apos := by
        unfold attrOf at hf
        split at hf
        · cases hf; rfl
        · cases hf
      dsimp only at h
      cases hb : (plainBase o && noStar args && Nat.ble args.length 20 && apos.endLine == pos.line) with
      | false => rw [hb] at h; cases h
      | true =>
        rw [hb] at h
        simp only [Bool.and_eq_true] at hb
        obtain ⟨⟨⟨b1, b2⟩, b3⟩, b4⟩ := hb
        refine bind_elim h hc fun ov σ₁ c₁ c₂ h1 hc1 h2 hc2 => ?_
        refine MethodCall_ (H.e _ _ _ _ _ _ _ _ h1 hc1 A env h₀ L m D I s ec F S _ fun va ha ta Da Ia Fa Sa xa Va => ?_) (method_eq b1 b2 b3 b4)
        exact H.m _ _ _ _ _ _ _ _ _ _ h2 hc2 A env h₀ L m Da Ia _ _ _ _ b2 (ec.later xa) Fa Sa Va _ (hR.later xa)
    | none =>
      rw [hf] at h
      have hn : ∀ o x p, f ≠ .Attribute o x p := fun o x p e => by subst e; cases hf
      dsimp only at h
      cases hb : (noStar args && Nat.ble args.length 20) with
      | false => rw [hb] at h; cases h
      | true =>
        rw [hb] at h
        simp only [Bool.and_eq_true] at hb
        refine bind_elim h hc fun fv σ₁ c₁ c₂ h1 hc1 h2 hc2 => ?_
        refine Call_ (H.e _ _ _ _ _ _ _ _ h1 hc1 A env h₀ L m D I s ec F S _ fun va ha ta Da Ia Fa Sa xa Va => ?_) (call_eq hn)
        exact H.a _ _ _ _ _ _ _ _ _ h2 hc2 A env h₀ L m Da Ia _ _ _ hb.1 (ec.later xa) Fa Sa Va _ (hR.later xa)
  · cases h
end
end Mine
end D8
section D9
namespace Mine
open PM

theorem swapsWith_no {e : PySem.Expr} (h : notComp e = true) (t : Option PySem.Expr) (l : Nat) (env : Env) : swapsWith e t l env = pure false := by
  cases e <;> first | rfl | cases h
theorem swapped_at (ts : List PySem.Expr) (e : PySem.Expr) (env : Env) : swappedStores ts e env = swappedStores ts e (env0 env.scope) := rfl
theorem isLocal_ok {cs : Scope} {x : Str} (h : isLocal cs x = true) : cs.names.lookup x = some .local := by
  unfold isLocal at h
  split at h
  · assumption
  · cases h

noncomputable def StoreAll (M : Model) (A : Around) (env : Env) (Q : Unit → Shared → Prop) (E : Value → Shared → Prop) : List Str → List Value → Shared → Prop
  | x :: xs, v :: vs, s => wpAny M A (storeName env x v) (fun _ s' => StoreAll M A env Q E xs vs s') E s
  | _, _, s => Q () s
theorem storeAll_binds {M : Model} {A : Around} {env : Env} {Q : Unit → Shared → Prop} {E : Value → Shared → Prop} : ∀ {xs : List Str} {vs : List Value} {s : Shared}, StoreAll M A env Q E xs vs s → wpAny M A (assignInOrder (xs.map fun n => bindName env n) vs) Q E s
  | [], _, _, h => by unfold StoreAll at h; exact wpAny_pure h
  | _ :: _, [], _, h => by unfold StoreAll at h; exact wpAny_pure h
  | x :: xs, v :: vs, s, h => by
    show wpAny M A (do holding vs (bindName env x v); assignInOrder (xs.map fun n => bindName env n) vs) Q E s
    have h' : wpAny M A (storeName env x v) (fun _ s' => StoreAll M A env Q E xs vs s') E s := h
    exact wpAny_bind (wpAny_holding (bindName_ (wpAny_mono h' (fun _ s' q => storeAll_binds q) fun _ _ q => q)))
theorem storeAll_names {M : Model} {A : Around} {env : Env} {Q : Unit → Shared → Prop} {E : Value → Shared → Prop} {cs : Scope} : ∀ {ts : List PySem.Expr} {xs : List Str}, namesOf cs ts = some xs →
    (assignEach ts env).length = xs.length ∧ (assignEach ts env).findIdx? (·.1) = none ∧ (∀ x ∈ xs, cs.names.lookup x = some .local) ∧
    ∀ {vs : List Value} {s : Shared}, StoreAll M A env Q E xs vs s → wpAny M A (assignInOrder ((assignEach ts env).map (·.2)) vs) Q E s
  | [], xs, h => by
    cases h
    exact ⟨rfl, rfl, nofun, fun h => by unfold StoreAll at h; exact wpAny_pure h⟩
  | t :: r, xs, h => by
    unfold namesOf at h
    split at h
    · rename_i heq; cases heq
    · rename_i x p r' heq
      cases heq
      cases hx : isLocal cs x with
      | false => rw [hx] at h; cases h
      | true =>
        rw [hx] at h
        dsimp only at h
        cases q : namesOf cs r with
        | none => rw [q] at h; cases h
        | some ys =>
          rw [q] at h; cases h
          obtain ⟨b1, b2, b3, b4⟩ := storeAll_names (M := M) (A := A) (env := env) (Q := Q) (E := E) q
          have e1 : assignEach (.Name x p :: r) env = (false, assign (.Name x p) env) :: assignEach r env := rfl
          refine ⟨by rw [e1]; simp [b1], by rw [e1, List.findIdx?_cons]; simp [b2], fun y hy => ?_, fun {vs s} h => ?_⟩
          · rcases List.mem_cons.mp hy with rfl | hy
            · exact isLocal_ok hx
            · exact b3 y hy
          · rw [e1]
            cases vs with
            | nil => unfold StoreAll at h; exact wpAny_pure h
            | cons v vs =>
              show wpAny M A (do holding vs (assign (.Name x p) env v); assignInOrder ((assignEach r env).map (·.2)) vs) Q E s
              have h' : wpAny M A (storeName env x v) (fun _ s' => StoreAll M A env Q E ys vs s') E s := h
              exact wpAny_bind (wpAny_holding (assign_Name (wpAny_mono h' (fun _ s' q => b4 q) fun _ _ q => q)))
    · cases h

section
variable {W : Wd} {k : Nat} {A : Around} {env : Env} {h₀ : Heap} {L : Addr} {cs : Scope} {cl : List (Str × Addr)} {D : List Addr} {I : Led} {σ : List PO} {ρ : Loc}
theorem store_ok (x : XC W k A env h₀ L cs cl) {m : Str → Option Value} {s : Shared} {n : Str} {v : Value} {pv : PV} {Q : Unit → Shared → Prop} {E : Value → Shared → Prop} (hn : cs.names.lookup n = some .local) (F : Fr h₀ L s.heap m) (S : W.S h₀ L s.heap σ D I) (lr : LR W cs cl I D m ρ) (V : W.V I D v pv)
    (h : ∀ h' m', Fr h₀ L h' m' → W.S h₀ L h' σ D I → LR W cs cl I D m' (setL n pv ρ) → Q () { s with heap := h', toks := s.toks + 1 }) : wpAny W.M A (storeName env n v) Q E s := by
  obtain ⟨qual, f, cdv, rfl⟩ := x.sh
  obtain ⟨os, N, r⟩ := S
  exact storeX_L F N (fun h' F' N' => h h' _ F' ⟨os, N', r⟩ (lr.set V hn)) x.kd hn
theorem storeAll_ok (x : XC W k A env h₀ L cs cl) {Q : Unit → Shared → Prop} {E : Value → Shared → Prop} : ∀ {xs : List Str} {vals : List Value} {vs : List PV} {m : Str → Option Value} {s : Shared} {ρ : Loc}, VRs W.K I D vals vs → (∀ n ∈ xs, cs.names.lookup n = some .local) →
    Fr h₀ L s.heap m → W.S h₀ L s.heap σ D I → LR W cs cl I D m ρ →
    (∀ h' m' tk', Fr h₀ L h' m' → W.S h₀ L h' σ D I → LR W cs cl I D m' (setAll xs vs ρ) → Q () { s with heap := h', toks := tk' }) → StoreAll W.M A env Q E xs vals s
  | [], _, _, m, s, ρ, V, _, F, S, lr, h => by unfold StoreAll; exact h s.heap m s.toks F S (by unfold setAll; exact lr)
  | _ :: _, _, _, m, s, ρ, .nil, _, F, S, lr, h => by unfold StoreAll; exact h s.heap m s.toks F S (by unfold setAll; exact lr)
  | n :: xs, _, _, m, s, ρ, .cons (v := v) (p := p) (vs := vals) (ps := vs) V r, hl, F, S, lr, h => by
    show wpAny W.M A (storeName env n v) (fun _ s' => StoreAll W.M A env Q E xs vals s') E s
    refine store_ok x (hl n (.head _)) F S lr V fun h' m' F' S' lr' => ?_
    exact storeAll_ok x r (fun y hy => hl y (.tail _ hy)) F' S' lr' fun h'' m'' tk'' F'' S'' lr'' => h h'' m'' tk'' F'' S'' lr''
end

section
variable {W : Wd} {O : Orc} {n : Nat} (H : Snd W O n)
include H
variable {k : Nat} {cs : Scope} {ρ : Loc} {σ σ' : List PO} {C : List Con}

theorem snd_ss {ss : List Stmt} {fl : Fl} {ρ' : Loc} (h : pxs W.Tb O (n + 1) k cs ρ ss σ = some ((fl, ρ'), σ', C)) (hc : ∀ c ∈ C, c.holds W) : SSOK W k cs ρ ss σ fl ρ' σ' := by
  intro A env h₀ L m D I s cl xc F S lr Q hR
  rw [pxs_succ] at h; unfold pxsF at h
  cases ss with
  | nil =>
    cases h
    exact wpAny_execs_nil (hR .next s.heap s.toks m D I F S Ext.refl lr trivial)
  | cons st r =>
    refine bind_elim h hc fun q σ₁ c₁ c₂ h1 hc1 h2 hc2 => ?_
    obtain ⟨f, ρ₁⟩ := q
    refine wpAny_execs_cons (H.s _ _ _ _ _ _ _ _ _ h1 hc1 A env h₀ L m D I s cl xc F S lr _ fun g h' tk' m' D' I' F' S' x lr' fr => ?_)
    cases f with
    | next =>
      cases g with
      | next => exact H.ss _ _ _ _ _ _ _ _ _ h2 hc2 A env h₀ L m' D' I' _ cl xc F' S' lr' _ fun g h'' tk'' m'' D'' I'' F'' S'' y lr'' fr => hR g h'' tk'' m'' D'' I'' F'' S'' (x.trans y) lr'' fr
      | _ => exact fr.elim
    | brk =>
      cases h2
      cases g with
      | brk => exact hR .brk h' tk' m' D' I' F' S' x lr' fr
      | _ => exact fr.elim
    | ret v =>
      cases h2
      cases g with
      | ret u => exact hR (.ret u) h' tk' m' D' I' F' S' x lr' fr
      | _ => exact fr.elim

theorem snd_s {st : Stmt} {fl : Fl} {ρ' : Loc} (h : px W.Tb O (n + 1) k cs ρ st σ = some ((fl, ρ'), σ', C)) (hc : ∀ c ∈ C, c.holds W) : SOK W k cs ρ st σ fl ρ' σ' := by
  intro A env h₀ L m D I s cl xc F S lr Q hR
  have ec := xc.ec (D := D) (I := I) lr
  rw [px_succ] at h; unfold pxF at h
  split at h
  · rename_i e p
    cases hb : notComp e with
    | false => rw [hb] at h; cases h
    | true =>
      rw [hb] at h
      refine bind_elim h hc fun v σ₁ c₁ c₂ h1 hc1 h2 hc2 => ?_
      cases h2
      refine wpAny_Expr_any (H.e _ _ _ _ _ _ _ _ h1 hc1 A env h₀ L m D I s ec F S _ fun va ha ta Da Ia Fa Sa xa Va => ?_) ?_ (swapsWith_no hb _ _ _)
      · exact hR .next ha ta m Da Ia Fa Sa xa (lr.later xa) trivial
      · obtain ⟨qual, f, cdv, rfl⟩ := xc.sh
        unfold interactive
        show (cs.kind == .module && _) = false
        rw [xc.kd]; rfl
  · rename_i x px e p
    cases hb : (notComp e && isLocal cs x) with
    | false => rw [hb] at h; cases h
    | true =>
      rw [hb] at h
      simp only [Bool.and_eq_true] at hb
      refine bind_elim h hc fun v σ₁ c₁ c₂ h1 hc1 h2 hc2 => ?_
      cases h2
      refine wpAny_Assign_Name (H.e _ _ _ _ _ _ _ _ h1 hc1 A env h₀ L m D I s ec F S _ fun va ha ta Da Ia Fa Sa xa Va => ?_) (swapsWith_no hb.1 _ _ _)
      exact store_ok xc (isLocal_ok hb.2) Fa Sa (lr.later xa) Va fun h' m' F' S' lr' => hR .next h' _ m' Da Ia F' S' xa lr' trivial
  · rename_i o a pa e p
    cases hb : notComp e with
    | false => rw [hb] at h; cases h
    | true =>
      rw [hb] at h
      refine bind_elim h hc fun v σ₁ c₁ c₂ h1 hc1 h2 hc2 => ?_
      refine bind_elim h2 hc2 fun ov σ₂ c₃ c₄ h3 hc3 h4 hc4 => ?_
      refine bind_elim h4 hc4 fun u σ₃ c₅ c₆ h5 hc5 h6 hc6 => ?_
      cases h6
      refine plainObj_wpAny_Assign_Attribute (H.e _ _ _ _ _ _ _ _ h1 hc1 A env h₀ L m D I s ec F S _ fun va ha ta Da Ia Fa Sa xa Va => ?_) (swapsWith_no hb _ _ _)
      refine H.e _ _ _ _ _ _ _ _ h3 hc3 A env h₀ L m Da Ia _ (ec.later xa) Fa Sa _ fun vb hb' tb Db Ib Fb Sb xb Vb => ?_
      exact pset_ok xc.ok h5 Vb (Va.mono xb) xc.gd.X Fb Sb fun h' tk' F' S' => hR .next h' tk' m Db Ib F' S' (xa.trans xb) (lr.later (xa.trans xb)) trivial
  · rename_i o i pa e p
    cases hb : notComp e with
    | false => rw [hb] at h; cases h
    | true =>
      rw [hb] at h
      refine bind_elim h hc fun v σ₁ c₁ c₂ h1 hc1 h2 hc2 => ?_
      refine bind_elim h2 hc2 fun ov σ₂ c₃ c₄ h3 hc3 h4 hc4 => ?_
      refine bind_elim h4 hc4 fun iv σ₃ c₅ c₆ h5 hc5 h6 hc6 => ?_
      refine bind_elim h6 hc6 fun u σ₄ c₇ c₈ h7 hc7 h8 hc8 => ?_
      cases h8
      refine wpAny_Assign_Subscript (H.e _ _ _ _ _ _ _ _ h1 hc1 A env h₀ L m D I s ec F S _ fun va ha ta Da Ia Fa Sa xa Va => ?_) (swapsWith_no hb _ _ _)
      refine H.e _ _ _ _ _ _ _ _ h3 hc3 A env h₀ L m Da Ia _ (ec.later xa) Fa Sa _ fun vb hb' tb Db Ib Fb Sb xb Vb => ?_
      refine H.e _ _ _ _ _ _ _ _ h5 hc5 A env h₀ L m Db Ib _ ((ec.later xa).later xb) Fb Sb _ fun vd hd td Dd Id Fd Sd xd Vd => ?_
      exact psetItem_ok h7 hc7 (Vb.mono xd) Vd ((Va.mono xb).mono xd) Fd Sd fun h' tk' F' S' => hR .next h' tk' m Dd Id F' S' ((xa.trans xb).trans xd) (lr.later ((xa.trans xb).trans xd)) trivial
  · rename_i ts kk tp e p
    cases hb : notComp e with
    | false => rw [hb] at h; cases h
    | true =>
      rw [hb] at h
      refine bind_elim h hc fun v σ₁ c₁ c₂ h1 hc1 h2 hc2 => ?_
      cases v with
      | tup l =>
        dsimp only at h2
        cases hn : namesOf cs ts with
        | none => rw [hn] at h2; cases h2
        | some xs =>
          rw [hn] at h2
          dsimp only at h2
          cases hl : Nat.beq xs.length l.length with
          | false => rw [hl] at h2; cases h2
          | true =>
            rw [hl] at h2
            dsimp only at h2
            have hl := Nat.eq_of_beq_eq_true hl
            have hsole : swapsWithSole [.Tuple ts kk tp] e p.line env = pure false := by
              unfold swapsWithSole
              exact swapsWith_no hb _ _ _
            have hsc : env0 env.scope = env0 cs := by obtain ⟨qual, f, cdv, rfl⟩ := xc.sh; rfl
            have fin : ∀ {va : Value} {ha : Heap} {ta : Nat} {Da : List Addr} {Ia : Led}, Fr h₀ L ha m → W.S h₀ L ha σ₁ Da Ia → Ext D I Da Ia → W.V Ia Da va (.tup l) →
                ∃ a vs, va = .ref a ∧ IsTup ha a (List.toArray vs) ∧ VRs W.K Ia Da vs l := by
              intro va ha ta Da Ia Fa Sa xa Va
              obtain ⟨a, rfl⟩ : ∃ a, va = .ref a := by cases Va <;> exact ⟨_, rfl⟩
              obtain ⟨vs, ht, hv, _⟩ := isTup_of (s := { s with heap := ha, toks := ta }) (xc.gd.X.keeps Fa.keep) Sa Va
              exact ⟨a, vs, rfl, ht, hv⟩
            cases hw : swappedStores [.Tuple ts kk tp] e (env0 cs) with
            | pure o =>
              rw [hw] at h2
              cases o with
              | none =>
                cases h2
                refine Assign_Tuple (H.e _ _ _ _ _ _ _ _ h1 hc1 A env h₀ L m D I s ec F S _ fun va ha ta Da Ia Fa Sa xa Va => ?_) hsole (by rw [swapped_at, hsc]; exact hw)
                obtain ⟨a, vs, rfl, ht, hv⟩ := fin (ta := ta) Fa Sa xa Va
                have nm := storeAll_names (M := W.M) (A := A) (env := env) (Q := fun _ => Q .next) (E := ff) hn
                refine assign_Tuple_tuple xc.hh ht (by rw [nm.1, hl, List.size_toArray, hv.length]) nm.2.1 fun h' x => ?_
                refine nm.2.2.2 (storeAll_ok xc hv nm.2.2.1 (Fr.extBut Fa x (Nat.le_refl _)) (St.ext Sa x) (lr.later xa) fun h'' m'' tk'' F'' S'' lr'' => ?_)
                exact hR .next h'' tk'' m'' Da Ia F'' S'' xa lr'' trivial
              | some ys =>
                dsimp only at h2
                cases hy : decide (ys = xs) with
                | false => rw [hy] at h2; cases h2
                | true =>
                  rw [hy] at h2
                  have hy := of_decide_eq_true hy
                  subst hy
                  cases h2
                  refine Assign_Tuple_swapped (names := ys) (H.e _ _ _ _ _ _ _ _ h1 hc1 A env h₀ L m D I s ec F S _ fun va ha ta Da Ia Fa Sa xa Va => ?_) hsole (by rw [swapped_at, hsc]; exact hw)
                  obtain ⟨a, vs, rfl, ht, hv⟩ := fin (ta := ta) Fa Sa xa Va
                  have nm := storeAll_names (M := W.M) (A := A) (env := env) (Q := fun _ => Q .next) (E := ff) hn
                  have e1 : ys.length = (List.toArray vs).size := by rw [hl, List.size_toArray, hv.length]
                  rw [e1]
                  refine unpackItems_tuple xc.hh ht fun h' x => ?_
                  refine storeAll_binds (storeAll_ok xc hv.reverse (fun y hy => nm.2.2.1 y (List.mem_reverse.mp hy)) (Fr.extBut Fa x (Nat.le_refl _)) (St.ext Sa x) (lr.later xa) fun h'' m'' tk'' F'' S'' lr'' => ?_)
                  exact hR .next h'' tk'' m'' Da Ia F'' S'' xa lr'' trivial
            | _ => rw [hw] at h2; cases h2
      | _ => cases h2
  · rename_i o a pa op e p
    refine bind_elim h hc fun ov σ₁ c₁ c₂ h1 hc1 h2 hc2 => ?_
    refine bind_elim h2 hc2 fun old σ₂ c₃ c₄ h3 hc3 h4 hc4 => ?_
    refine bind_elim h4 hc4 fun v σ₃ c₅ c₆ h5 hc5 h6 hc6 => ?_
    cases op with
    | Add =>
      cases old with
      | int x =>
        cases v with
        | int y =>
          dsimp only at h6
          refine bind_elim h6 hc6 fun u σ₄ c₇ c₈ h7 hc7 h8 hc8 => ?_
          cases h8
          refine wpAny_AugAssign_AttributeAny (H.e _ _ _ _ _ _ _ _ h1 hc1 A env h₀ L m D I s ec F S _ fun va ha ta Da Ia Fa Sa xa Va => ?_)
          refine pget_ok xc.ok h3 Va xc.gd.X Fa Sa fun vb hb' tb Db Ib Fb Sb xb Vb => ?_
          refine H.e _ _ _ _ _ _ _ _ h5 hc5 A env h₀ L m Db Ib _ ((ec.later xa).later xb) Fb Sb _ fun vd hd td Dd Id Fd Sd xd Vd => ?_
          cases Vb
          cases Vd
          refine iadd_int ?_
          exact pset_ok xc.ok h7 ((Va.mono xb).mono xd) (.int _ _) xc.gd.X Fd Sd fun h' tk' F' S' => hR .next h' tk' m Dd Id F' S' ((xa.trans xb).trans xd) (lr.later ((xa.trans xb).trans xd)) trivial
        | _ => cases h6
      | _ => cases h6
    | _ => cases h6
  · refine bind_elim h hc fun b σ₁ c₁ c₂ h1 hc1 h2 hc2 => ?_
    refine wpAny_If (H.t _ _ _ _ _ _ _ _ h1 hc1 A env h₀ L m D I s ec F S _ fun ha ta Da Ia Fa Sa xa => ?_)
    cases b with
    | true => exact H.ss _ _ _ _ _ _ _ _ _ h2 hc2 A env h₀ L m Da Ia _ cl xc Fa Sa (lr.later xa) _ fun g h'' tk'' m'' D'' I'' F'' S'' y lr'' fr => hR g h'' tk'' m'' D'' I'' F'' S'' (xa.trans y) lr'' fr
    | false => exact H.ss _ _ _ _ _ _ _ _ _ h2 hc2 A env h₀ L m Da Ia _ cl xc Fa Sa (lr.later xa) _ fun g h'' tk'' m'' D'' I'' F'' S'' y lr'' fr => hR g h'' tk'' m'' D'' I'' F'' S'' (xa.trans y) lr'' fr
  · refine bind_elim h hc fun v σ₁ c₁ c₂ h1 hc1 h2 hc2 => ?_
    cases h2
    exact wpAny_Return_some (H.e _ _ _ _ _ _ _ _ h1 hc1 A env h₀ L m D I s ec F S _ fun va ha ta Da Ia Fa Sa xa Va => hR (.ret va) ha ta m Da Ia Fa Sa xa (lr.later xa) Va)
  · cases h
    exact wpAny_Return_none (hR (.ret .none) s.heap s.toks m D I F S Ext.refl lr .none)
  · cases h
    exact wpAny_Break (hR .brk s.heap s.toks m D I F S Ext.refl lr trivial)
  · cases h
end

theorem snd (W : Wd) (O : Orc) : ∀ n, Snd W O n
  | 0 => Snd.zero
  | n + 1 =>
    have H := snd W O n
    { e := fun _ _ _ _ _ _ _ _ h hc => snd_e H h hc
      p := fun _ _ _ _ _ _ _ _ h hc => snd_p H h hc
      l := fun _ _ _ _ _ _ _ _ h hc => snd_l H h hc
      t := fun _ _ _ _ _ _ _ _ h hc => snd_t H h hc
      m := fun _ _ _ _ _ _ _ _ _ _ h hc => snd_m H h hc
      a := fun _ _ _ _ _ _ _ _ _ h hc => snd_a H h hc
      c := fun ok _ _ _ _ _ _ _ h hc => snd_c H ok h hc
      s := fun _ _ _ _ _ _ _ _ _ h hc => snd_s H h hc
      ss := fun _ _ _ _ _ _ _ _ _ h hc => snd_ss H h hc }
end Mine
end D9
section D10
namespace Mine
open PM

noncomputable abbrev KK (P : Params) : Frag := hd.heap_39 P
noncomputable def P0 : Params := { strHash := fun _ => 0, shareClass := fun _ => 0, mergeTok := id, idOf := fun _ => 0, idOfShared := fun _ _ => 0, followText := fun _ => false, idOfImm := fun _ => 0 }
noncomputable def fdOf (P : Params) (f : Addr) : FuncData := match (KK P).lookup f with
  | some ⟨_, _, .func fd, _⟩ => fd
  | _ => default
noncomputable def obOf (P : Params) (f : Addr) : Obj := ((KK P).lookup f).getD default
noncomputable def bodyOf : FuncBody → List Stmt
  | .stmts b => b
  | _ => []
noncomputable def fnAt (f : Addr) : Fn := let fd := fdOf P0 f; ⟨fd.qualname, fd.params.args.map (·.arg), bodyOf fd.body, fd.scope⟩
noncomputable def fns : List Addr := [107, 121, 156, 187, 194, 201, 208, 215, 306, 313, 320, 327, 334, 341, 348, 355, 362, 369, 383, 390, 397, 404, 418]
noncomputable def globs : List (Str × PV) := ("abs", .glo (.builtin "abs")) :: ("sorted", .glo (.builtin "sorted")) :: [("is_fail", .glo (.ref 121)), ("to_text", .glo (.ref 156)), ("pattern_of", .glo (.ref 187)), ("is_delayed", .glo (.ref 194)), ("settled", .glo (.ref 201)),
  ("chars_end", .glo (.ref 208)), ("len_end", .glo (.ref 215)), ("one_end", .glo (.ref 306)), ("plain_end", .glo (.ref 313)), ("match_plain", .glo (.ref 320)), ("match_at", .glo (.ref 327)), ("tried", .glo (.ref 334)), ("advanced", .glo (.ref 341)),
  ("led_in", .glo (.ref 348)), ("led_out", .glo (.ref 355)), ("steered", .glo (.ref 362)), ("taken", .glo (.ref 369)),
  ("Failure", .glo (.ref 47)), ("Pattern", .glo (.ref 68)), ("Delayed", .glo (.ref 89)), ("NameRef", .glo (.ref 110)), ("PlainHost", .glo (.ref 407)), ("_law_told", .glo (.ref 418)),
  ("LOST", .str "lost"), ("COUNTED", .tup [.str "len", .str "pos", .str "rpos", .str "tab", .str "rtab"]), ("SIGNED", .tup [.str "any", .str "notany", .str "span", .str "break"]),
  ("len", .glo (.builtin "len")), ("isinstance", .glo (.builtin "isinstance")), ("str", .glo (.type "str")), ("int", .glo (.type "int")), ("tuple", .glo (.type "tuple")), ("range", .glo (.type "range"))]
noncomputable def hostAttrs : List Str := ["values", "limit", "refused", "width", "steps", "log"]
noncomputable def refAttrs : List Str := ["kind", "owner", "key"]
noncomputable def tab : Tab where
  fn f := match fns.contains f with | true => some (fnAt f) | false => none
  ini C := match C == 110 with | true => some 107 | false => match C == 407 with | true => some 383 | false => none
  glob x := globs.lookup x
  get C n := (C == 407 && hostAttrs.contains n) || (C == 110 && refAttrs.contains n)
  set C n := (C == 407 && hostAttrs.contains n) || (C == 110 && refAttrs.contains n)
  meth C n := match C == 407 with
    | true => match n == ("step" : Str) with | true => some 404 | false => match n == ("assign" : Str) with | true => some 397 | false => match n == ("value_of" : Str) with | true => some 390 | false => none
    | false => none
  isi T c := match T == "str" || T == "int" with
    | true => match c with
      | .ref a => match a == 47 || a == 68 || a == 89 with | true => some false | false => none
      | .type t => match t == "str" || t == "int" || t == "tuple" with | true => some (T == t) | false => none
      | _ => none
    | false => none

noncomputable def strTok : Value → Str × Tok
  | .str s t => (s, t)
  | _ => default
noncomputable def tks (a : Addr) : List (Str × Tok) := match (obOf P0 a).data with
  | .seq vs _ => vs.toList.map strTok
  | _ => []
theorem len_s {α : Type} {n : Nat} {l : List α} (h : l.length = n + 1) : ∃ a r, l = a :: r ∧ r.length = n := by
  cases l with
  | nil => cases h
  | cons a r => exact ⟨a, r, rfl, Nat.succ.inj h⟩
theorem len_1 {α : Type} {l : List α} (h : l.length = 1) : ∃ a, l = [a] := by
  obtain ⟨a, r, rfl, g⟩ := len_s h
  exact ⟨a, by rw [List.eq_nil_of_length_eq_zero g]⟩
theorem len_2 {α : Type} {l : List α} (h : l.length = 2) : ∃ a b0, l = [a, b0] := by
  obtain ⟨a, r, rfl, g⟩ := len_s h
  obtain ⟨b0, rfl⟩ := len_1 g
  exact ⟨a, b0, rfl⟩
theorem len_3 {α : Type} {l : List α} (h : l.length = 3) : ∃ a b0 b1, l = [a, b0, b1] := by
  obtain ⟨a, r, rfl, g⟩ := len_s h
  obtain ⟨b0, b1, rfl⟩ := len_2 g
  exact ⟨a, b0, b1, rfl⟩
theorem len_4 {α : Type} {l : List α} (h : l.length = 4) : ∃ a b0 b1 b2, l = [a, b0, b1, b2] := by
  obtain ⟨a, r, rfl, g⟩ := len_s h
  obtain ⟨b0, b1, b2, rfl⟩ := len_3 g
  exact ⟨a, b0, b1, b2, rfl⟩
theorem len_5 {α : Type} {l : List α} (h : l.length = 5) : ∃ a b0 b1 b2 b3, l = [a, b0, b1, b2, b3] := by
  obtain ⟨a, r, rfl, g⟩ := len_s h
  obtain ⟨b0, b1, b2, b3, rfl⟩ := len_4 g
  exact ⟨a, b0, b1, b2, b3, rfl⟩
theorem len_6 {α : Type} {l : List α} (h : l.length = 6) : ∃ a b0 b1 b2 b3 b4, l = [a, b0, b1, b2, b3, b4] := by
  obtain ⟨a, r, rfl, g⟩ := len_s h
  obtain ⟨b0, b1, b2, b3, b4, rfl⟩ := len_5 g
  exact ⟨a, b0, b1, b2, b3, b4, rfl⟩
theorem len_7 {α : Type} {l : List α} (h : l.length = 7) : ∃ a b0 b1 b2 b3 b4 b5, l = [a, b0, b1, b2, b3, b4, b5] := by
  obtain ⟨a, r, rfl, g⟩ := len_s h
  obtain ⟨b0, b1, b2, b3, b4, b5, rfl⟩ := len_6 g
  exact ⟨a, b0, b1, b2, b3, b4, b5, rfl⟩
section
variable (P : Params)
theorem fn_ex {f : Addr} (h1 : (KK P).lookup f = some ⟨(obOf P f).cls, (obOf P f).dict, .func (fnOf (fdOf P f).name (fnAt f).qual (fdOf P f).params (fnAt f).body (fnAt f).scope (fdOf P f).defaults (fdOf P f).kwdefaults (fdOf P f).doc (fdOf P f).pyModule (fdOf P f).annotations (fdOf P f).code (fdOf P f).closureTuple), (obOf P f).slots⟩)
    (h2 : codeIn (KK P) (fdOf P f).code (fnAt f).qual = true)
    (h3 : ∀ vs : List Value, vs.length = (fnAt f).params.length → bindArgs (fnOf (fdOf P f).name (fnAt f).qual (fdOf P f).params (fnAt f).body (fnAt f).scope (fdOf P f).defaults (fdOf P f).kwdefaults (fdOf P f).doc (fdOf P f).pyModule (fdOf P f).annotations (fdOf P f).code (fdOf P f).closureTuple) ⟨vs, []⟩ = pure ((fnAt f).params.zip vs))
    (h4 : ((fnAt f).params.all fun x => (fnAt f).scope.names.lookup x == some .local) = true) (h6 : decide ((fnAt f).params.Nodup) = true)
    (h7 : ((fnAt f).scope.isCoroutine || (fnAt f).scope.isGenerator) = false) (h8 : (fnAt f).scope.kind = .function) (h9 : ((fnAt f).scope.names.all fun x => x.2 != .cell) = true) (h10 : keepIn (KK P) (.ref f) = true) : FnOk (KK P) f (fnAt f) := by
  refine ⟨⟨_, _, _, _, _, _, _, _, _, _, _, _, h1, h2, h3⟩, fun x hx => ?_, of_decide_eq_true h6, ?_, ?_, h8, fun x hx e => ?_, h10⟩
  · have := List.all_eq_true.mp h4 x hx; exact beq_iff_eq.mp this
  · exact (Bool.or_eq_false_iff.mp h7).1
  · exact (Bool.or_eq_false_iff.mp h7).2
  · have := List.all_eq_true.mp h9 x hx; rw [e] at this; cases this
set_option maxHeartbeats 0 in
theorem fn_107 : FnOk (KK P) 107 (fnAt 107) := by
  refine fn_ex P (by kernel_rfl) (by kernel_rfl) (fun vs h => ?_) (by kernel_rfl) (by kernel_rfl) (by kernel_rfl) (by kernel_rfl) (by kernel_rfl) (by kernel_rfl)
  have h' : vs.length = 4 := h.trans (by kernel_rfl)
  obtain ⟨v0, v1, v2, v3, rfl⟩ := len_4 h'
  kernel_rfl
set_option maxHeartbeats 0 in
theorem fn_121 : FnOk (KK P) 121 (fnAt 121) := by
  refine fn_ex P (by kernel_rfl) (by kernel_rfl) (fun vs h => ?_) (by kernel_rfl) (by kernel_rfl) (by kernel_rfl) (by kernel_rfl) (by kernel_rfl) (by kernel_rfl)
  have h' : vs.length = 1 := h.trans (by kernel_rfl)
  obtain ⟨v0, rfl⟩ := len_1 h'
  kernel_rfl
set_option maxHeartbeats 0 in
theorem fn_156 : FnOk (KK P) 156 (fnAt 156) := by
  refine fn_ex P (by kernel_rfl) (by kernel_rfl) (fun vs h => ?_) (by kernel_rfl) (by kernel_rfl) (by kernel_rfl) (by kernel_rfl) (by kernel_rfl) (by kernel_rfl)
  have h' : vs.length = 1 := h.trans (by kernel_rfl)
  obtain ⟨v0, rfl⟩ := len_1 h'
  kernel_rfl
set_option maxHeartbeats 0 in
theorem fn_187 : FnOk (KK P) 187 (fnAt 187) := by
  refine fn_ex P (by kernel_rfl) (by kernel_rfl) (fun vs h => ?_) (by kernel_rfl) (by kernel_rfl) (by kernel_rfl) (by kernel_rfl) (by kernel_rfl) (by kernel_rfl)
  have h' : vs.length = 1 := h.trans (by kernel_rfl)
  obtain ⟨v0, rfl⟩ := len_1 h'
  kernel_rfl
set_option maxHeartbeats 0 in
theorem fn_194 : FnOk (KK P) 194 (fnAt 194) := by
  refine fn_ex P (by kernel_rfl) (by kernel_rfl) (fun vs h => ?_) (by kernel_rfl) (by kernel_rfl) (by kernel_rfl) (by kernel_rfl) (by kernel_rfl) (by kernel_rfl)
  have h' : vs.length = 1 := h.trans (by kernel_rfl)
  obtain ⟨v0, rfl⟩ := len_1 h'
  kernel_rfl
set_option maxHeartbeats 0 in
theorem fn_201 : FnOk (KK P) 201 (fnAt 201) := by
  refine fn_ex P (by kernel_rfl) (by kernel_rfl) (fun vs h => ?_) (by kernel_rfl) (by kernel_rfl) (by kernel_rfl) (by kernel_rfl) (by kernel_rfl) (by kernel_rfl)
  have h' : vs.length = 2 := h.trans (by kernel_rfl)
  obtain ⟨v0, v1, rfl⟩ := len_2 h'
  kernel_rfl
set_option maxHeartbeats 0 in
theorem fn_208 : FnOk (KK P) 208 (fnAt 208) := by
  refine fn_ex P (by kernel_rfl) (by kernel_rfl) (fun vs h => ?_) (by kernel_rfl) (by kernel_rfl) (by kernel_rfl) (by kernel_rfl) (by kernel_rfl) (by kernel_rfl)
  have h' : vs.length = 3 := h.trans (by kernel_rfl)
  obtain ⟨v0, v1, v2, rfl⟩ := len_3 h'
  kernel_rfl
set_option maxHeartbeats 0 in
theorem fn_215 : FnOk (KK P) 215 (fnAt 215) := by
  refine fn_ex P (by kernel_rfl) (by kernel_rfl) (fun vs h => ?_) (by kernel_rfl) (by kernel_rfl) (by kernel_rfl) (by kernel_rfl) (by kernel_rfl) (by kernel_rfl)
  have h' : vs.length = 3 := h.trans (by kernel_rfl)
  obtain ⟨v0, v1, v2, rfl⟩ := len_3 h'
  kernel_rfl
set_option maxHeartbeats 0 in
theorem fn_306 : FnOk (KK P) 306 (fnAt 306) := by
  refine fn_ex P (by kernel_rfl) (by kernel_rfl) (fun vs h => ?_) (by kernel_rfl) (by kernel_rfl) (by kernel_rfl) (by kernel_rfl) (by kernel_rfl) (by kernel_rfl)
  have h' : vs.length = 4 := h.trans (by kernel_rfl)
  obtain ⟨v0, v1, v2, v3, rfl⟩ := len_4 h'
  kernel_rfl
set_option maxHeartbeats 0 in
theorem fn_313 : FnOk (KK P) 313 (fnAt 313) := by
  refine fn_ex P (by kernel_rfl) (by kernel_rfl) (fun vs h => ?_) (by kernel_rfl) (by kernel_rfl) (by kernel_rfl) (by kernel_rfl) (by kernel_rfl) (by kernel_rfl)
  have h' : vs.length = 3 := h.trans (by kernel_rfl)
  obtain ⟨v0, v1, v2, rfl⟩ := len_3 h'
  kernel_rfl
set_option maxHeartbeats 0 in
theorem fn_320 : FnOk (KK P) 320 (fnAt 320) := by
  refine fn_ex P (by kernel_rfl) (by kernel_rfl) (fun vs h => ?_) (by kernel_rfl) (by kernel_rfl) (by kernel_rfl) (by kernel_rfl) (by kernel_rfl) (by kernel_rfl)
  have h' : vs.length = 4 := h.trans (by kernel_rfl)
  obtain ⟨v0, v1, v2, v3, rfl⟩ := len_4 h'
  kernel_rfl
set_option maxHeartbeats 0 in
theorem fn_327 : FnOk (KK P) 327 (fnAt 327) := by
  refine fn_ex P (by kernel_rfl) (by kernel_rfl) (fun vs h => ?_) (by kernel_rfl) (by kernel_rfl) (by kernel_rfl) (by kernel_rfl) (by kernel_rfl) (by kernel_rfl)
  have h' : vs.length = 4 := h.trans (by kernel_rfl)
  obtain ⟨v0, v1, v2, v3, rfl⟩ := len_4 h'
  kernel_rfl
set_option maxHeartbeats 0 in
theorem fn_334 : FnOk (KK P) 334 (fnAt 334) := by
  refine fn_ex P (by kernel_rfl) (by kernel_rfl) (fun vs h => ?_) (by kernel_rfl) (by kernel_rfl) (by kernel_rfl) (by kernel_rfl) (by kernel_rfl) (by kernel_rfl)
  have h' : vs.length = 4 := h.trans (by kernel_rfl)
  obtain ⟨v0, v1, v2, v3, rfl⟩ := len_4 h'
  kernel_rfl
set_option maxHeartbeats 0 in
theorem fn_341 : FnOk (KK P) 341 (fnAt 341) := by
  refine fn_ex P (by kernel_rfl) (by kernel_rfl) (fun vs h => ?_) (by kernel_rfl) (by kernel_rfl) (by kernel_rfl) (by kernel_rfl) (by kernel_rfl) (by kernel_rfl)
  have h' : vs.length = 6 := h.trans (by kernel_rfl)
  obtain ⟨v0, v1, v2, v3, v4, v5, rfl⟩ := len_6 h'
  kernel_rfl
set_option maxHeartbeats 0 in
theorem fn_348 : FnOk (KK P) 348 (fnAt 348) := by
  refine fn_ex P (by kernel_rfl) (by kernel_rfl) (fun vs h => ?_) (by kernel_rfl) (by kernel_rfl) (by kernel_rfl) (by kernel_rfl) (by kernel_rfl) (by kernel_rfl)
  have h' : vs.length = 5 := h.trans (by kernel_rfl)
  obtain ⟨v0, v1, v2, v3, v4, rfl⟩ := len_5 h'
  kernel_rfl
set_option maxHeartbeats 0 in
theorem fn_355 : FnOk (KK P) 355 (fnAt 355) := by
  refine fn_ex P (by kernel_rfl) (by kernel_rfl) (fun vs h => ?_) (by kernel_rfl) (by kernel_rfl) (by kernel_rfl) (by kernel_rfl) (by kernel_rfl) (by kernel_rfl)
  have h' : vs.length = 7 := h.trans (by kernel_rfl)
  obtain ⟨v0, v1, v2, v3, v4, v5, v6, rfl⟩ := len_7 h'
  kernel_rfl
set_option maxHeartbeats 0 in
theorem fn_362 : FnOk (KK P) 362 (fnAt 362) := by
  refine fn_ex P (by kernel_rfl) (by kernel_rfl) (fun vs h => ?_) (by kernel_rfl) (by kernel_rfl) (by kernel_rfl) (by kernel_rfl) (by kernel_rfl) (by kernel_rfl)
  have h' : vs.length = 4 := h.trans (by kernel_rfl)
  obtain ⟨v0, v1, v2, v3, rfl⟩ := len_4 h'
  kernel_rfl
set_option maxHeartbeats 0 in
theorem fn_369 : FnOk (KK P) 369 (fnAt 369) := by
  refine fn_ex P (by kernel_rfl) (by kernel_rfl) (fun vs h => ?_) (by kernel_rfl) (by kernel_rfl) (by kernel_rfl) (by kernel_rfl) (by kernel_rfl) (by kernel_rfl)
  have h' : vs.length = 7 := h.trans (by kernel_rfl)
  obtain ⟨v0, v1, v2, v3, v4, v5, v6, rfl⟩ := len_7 h'
  kernel_rfl
set_option maxHeartbeats 0 in
theorem fn_383 : FnOk (KK P) 383 (fnAt 383) := by
  refine fn_ex P (by kernel_rfl) (by kernel_rfl) (fun vs h => ?_) (by kernel_rfl) (by kernel_rfl) (by kernel_rfl) (by kernel_rfl) (by kernel_rfl) (by kernel_rfl)
  have h' : vs.length = 4 := h.trans (by kernel_rfl)
  obtain ⟨v0, v1, v2, v3, rfl⟩ := len_4 h'
  kernel_rfl
set_option maxHeartbeats 0 in
theorem fn_390 : FnOk (KK P) 390 (fnAt 390) := by
  refine fn_ex P (by kernel_rfl) (by kernel_rfl) (fun vs h => ?_) (by kernel_rfl) (by kernel_rfl) (by kernel_rfl) (by kernel_rfl) (by kernel_rfl) (by kernel_rfl)
  have h' : vs.length = 2 := h.trans (by kernel_rfl)
  obtain ⟨v0, v1, rfl⟩ := len_2 h'
  kernel_rfl
set_option maxHeartbeats 0 in
theorem fn_397 : FnOk (KK P) 397 (fnAt 397) := by
  refine fn_ex P (by kernel_rfl) (by kernel_rfl) (fun vs h => ?_) (by kernel_rfl) (by kernel_rfl) (by kernel_rfl) (by kernel_rfl) (by kernel_rfl) (by kernel_rfl)
  have h' : vs.length = 3 := h.trans (by kernel_rfl)
  obtain ⟨v0, v1, v2, rfl⟩ := len_3 h'
  kernel_rfl
set_option maxHeartbeats 0 in
theorem fn_404 : FnOk (KK P) 404 (fnAt 404) := by
  refine fn_ex P (by kernel_rfl) (by kernel_rfl) (fun vs h => ?_) (by kernel_rfl) (by kernel_rfl) (by kernel_rfl) (by kernel_rfl) (by kernel_rfl) (by kernel_rfl)
  have h' : vs.length = 1 := h.trans (by kernel_rfl)
  obtain ⟨v0, rfl⟩ := len_1 h'
  kernel_rfl
set_option maxHeartbeats 0 in
theorem fn_418 : FnOk (KK P) 418 (fnAt 418) := by
  refine fn_ex P (by kernel_rfl) (by kernel_rfl) (fun vs h => ?_) (by kernel_rfl) (by kernel_rfl) (by kernel_rfl) (by kernel_rfl) (by kernel_rfl) (by kernel_rfl)
  have h' : vs.length = 2 := h.trans (by kernel_rfl)
  obtain ⟨v0, v1, rfl⟩ := len_2 h'
  kernel_rfl
theorem fns_all : ∀ f ∈ fns, FnOk (KK P) f (fnAt f) := by
  unfold fns
  refine List.forall_mem_cons.mpr ⟨fn_107 P, ?_⟩
  refine List.forall_mem_cons.mpr ⟨fn_121 P, ?_⟩
  refine List.forall_mem_cons.mpr ⟨fn_156 P, ?_⟩
  refine List.forall_mem_cons.mpr ⟨fn_187 P, ?_⟩
  refine List.forall_mem_cons.mpr ⟨fn_194 P, ?_⟩
  refine List.forall_mem_cons.mpr ⟨fn_201 P, ?_⟩
  refine List.forall_mem_cons.mpr ⟨fn_208 P, ?_⟩
  refine List.forall_mem_cons.mpr ⟨fn_215 P, ?_⟩
  refine List.forall_mem_cons.mpr ⟨fn_306 P, ?_⟩
  refine List.forall_mem_cons.mpr ⟨fn_313 P, ?_⟩
  refine List.forall_mem_cons.mpr ⟨fn_320 P, ?_⟩
  refine List.forall_mem_cons.mpr ⟨fn_327 P, ?_⟩
  refine List.forall_mem_cons.mpr ⟨fn_334 P, ?_⟩
  refine List.forall_mem_cons.mpr ⟨fn_341 P, ?_⟩
  refine List.forall_mem_cons.mpr ⟨fn_348 P, ?_⟩
  refine List.forall_mem_cons.mpr ⟨fn_355 P, ?_⟩
  refine List.forall_mem_cons.mpr ⟨fn_362 P, ?_⟩
  refine List.forall_mem_cons.mpr ⟨fn_369 P, ?_⟩
  refine List.forall_mem_cons.mpr ⟨fn_383 P, ?_⟩
  refine List.forall_mem_cons.mpr ⟨fn_390 P, ?_⟩
  refine List.forall_mem_cons.mpr ⟨fn_397 P, ?_⟩
  refine List.forall_mem_cons.mpr ⟨fn_404 P, ?_⟩
  refine List.forall_mem_cons.mpr ⟨fn_418 P, ?_⟩
  exact List.forall_mem_nil _

noncomputable def GOk (e : Str × PV) : Prop := (∃ v, nsIn (KK P) mainGlobals e.1 = some (some v) ∧ ∀ I D, VR (KK P) I D v e.2) ∨ (∃ v, nsIn (KK P) mainGlobals e.1 = some none ∧ bootBuiltins e.1 = some v ∧ e.1 ≠ "__name__" ∧ e.2 = .glo v)
theorem strs_vr {K : Frag} {I : Led} {D : List Addr} : ∀ (l : List (Str × Tok)), VRs K I D (l.map fun p => .str p.1 p.2) (l.map fun p => .str p.1)
  | [] => .nil
  | p :: r => .cons (.str _ _) (strs_vr r)
set_option maxHeartbeats 0 in
theorem globs_all : ∀ e ∈ globs, GOk P e := by
  unfold globs
  refine List.forall_mem_cons.mpr ⟨.inr ⟨.builtin "abs", by kernel_rfl, by kernel_rfl, by decide, rfl⟩, ?_⟩
  refine List.forall_mem_cons.mpr ⟨.inr ⟨.builtin "sorted", by kernel_rfl, by kernel_rfl, by decide, rfl⟩, ?_⟩
  refine List.forall_mem_cons.mpr ⟨.inl ⟨.ref 121, by kernel_rfl, fun _ _ => .glo _⟩, ?_⟩
  refine List.forall_mem_cons.mpr ⟨.inl ⟨.ref 156, by kernel_rfl, fun _ _ => .glo _⟩, ?_⟩
  refine List.forall_mem_cons.mpr ⟨.inl ⟨.ref 187, by kernel_rfl, fun _ _ => .glo _⟩, ?_⟩
  refine List.forall_mem_cons.mpr ⟨.inl ⟨.ref 194, by kernel_rfl, fun _ _ => .glo _⟩, ?_⟩
  refine List.forall_mem_cons.mpr ⟨.inl ⟨.ref 201, by kernel_rfl, fun _ _ => .glo _⟩, ?_⟩
  refine List.forall_mem_cons.mpr ⟨.inl ⟨.ref 208, by kernel_rfl, fun _ _ => .glo _⟩, ?_⟩
  refine List.forall_mem_cons.mpr ⟨.inl ⟨.ref 215, by kernel_rfl, fun _ _ => .glo _⟩, ?_⟩
  refine List.forall_mem_cons.mpr ⟨.inl ⟨.ref 306, by kernel_rfl, fun _ _ => .glo _⟩, ?_⟩
  refine List.forall_mem_cons.mpr ⟨.inl ⟨.ref 313, by kernel_rfl, fun _ _ => .glo _⟩, ?_⟩
  refine List.forall_mem_cons.mpr ⟨.inl ⟨.ref 320, by kernel_rfl, fun _ _ => .glo _⟩, ?_⟩
  refine List.forall_mem_cons.mpr ⟨.inl ⟨.ref 327, by kernel_rfl, fun _ _ => .glo _⟩, ?_⟩
  refine List.forall_mem_cons.mpr ⟨.inl ⟨.ref 334, by kernel_rfl, fun _ _ => .glo _⟩, ?_⟩
  refine List.forall_mem_cons.mpr ⟨.inl ⟨.ref 341, by kernel_rfl, fun _ _ => .glo _⟩, ?_⟩
  refine List.forall_mem_cons.mpr ⟨.inl ⟨.ref 348, by kernel_rfl, fun _ _ => .glo _⟩, ?_⟩
  refine List.forall_mem_cons.mpr ⟨.inl ⟨.ref 355, by kernel_rfl, fun _ _ => .glo _⟩, ?_⟩
  refine List.forall_mem_cons.mpr ⟨.inl ⟨.ref 362, by kernel_rfl, fun _ _ => .glo _⟩, ?_⟩
  refine List.forall_mem_cons.mpr ⟨.inl ⟨.ref 369, by kernel_rfl, fun _ _ => .glo _⟩, ?_⟩
  refine List.forall_mem_cons.mpr ⟨.inl ⟨.ref 47, by kernel_rfl, fun _ _ => .glo _⟩, ?_⟩
  refine List.forall_mem_cons.mpr ⟨.inl ⟨.ref 68, by kernel_rfl, fun _ _ => .glo _⟩, ?_⟩
  refine List.forall_mem_cons.mpr ⟨.inl ⟨.ref 89, by kernel_rfl, fun _ _ => .glo _⟩, ?_⟩
  refine List.forall_mem_cons.mpr ⟨.inl ⟨.ref 110, by kernel_rfl, fun _ _ => .glo _⟩, ?_⟩
  refine List.forall_mem_cons.mpr ⟨.inl ⟨.ref 407, by kernel_rfl, fun _ _ => .glo _⟩, ?_⟩
  refine List.forall_mem_cons.mpr ⟨.inl ⟨.ref 418, by kernel_rfl, fun _ _ => .glo _⟩, ?_⟩
  refine List.forall_mem_cons.mpr ⟨.inl ⟨.str "lost" 606, by kernel_rfl, fun _ _ => .str _ _⟩, ?_⟩
  refine List.forall_mem_cons.mpr ⟨.inl ⟨.ref 164, by kernel_rfl, fun I D => ?_⟩, ?_⟩
  · exact .ktup (vs := (tks 164).map fun p => .str p.1 p.2) (od := none) (n := 0) (sl := #[]) (by kernel_rfl) (strs_vr (tks 164))
  refine List.forall_mem_cons.mpr ⟨.inl ⟨.ref 165, by kernel_rfl, fun I D => ?_⟩, ?_⟩
  · exact .ktup (vs := (tks 165).map fun p => .str p.1 p.2) (od := none) (n := 0) (sl := #[]) (by kernel_rfl) (strs_vr (tks 165))
  refine List.forall_mem_cons.mpr ⟨.inr ⟨.builtin "len", by kernel_rfl, by kernel_rfl, by decide, rfl⟩, ?_⟩
  refine List.forall_mem_cons.mpr ⟨.inr ⟨.builtin "isinstance", by kernel_rfl, by kernel_rfl, by decide, rfl⟩, ?_⟩
  refine List.forall_mem_cons.mpr ⟨.inr ⟨.type "str", by kernel_rfl, by kernel_rfl, by decide, rfl⟩, ?_⟩
  refine List.forall_mem_cons.mpr ⟨.inr ⟨.type "int", by kernel_rfl, by kernel_rfl, by decide, rfl⟩, ?_⟩
  refine List.forall_mem_cons.mpr ⟨.inr ⟨.type "tuple", by kernel_rfl, by kernel_rfl, by decide, rfl⟩, ?_⟩
  refine List.forall_mem_cons.mpr ⟨.inr ⟨.type "range", by kernel_rfl, by kernel_rfl, by decide, rfl⟩, ?_⟩
  exact List.forall_mem_nil _

noncomputable def GetOk (C : Addr) (n : Str) : Prop := plainGet (KK P) C n = true ∧ hasDictIn (KK P) C = true ∧ ∃ attr, findIn (KK P) (.ref C) n = some attr ∧ noGet (KK P) attr = true
noncomputable def SetOk (C : Addr) (n : Str) : Prop := findIn (KK P) (.ref C) "__setattr__" = some (some (.builtin "object.__setattr__")) ∧ plainOver (KK P) C = true ∧ takerIn (KK P) C n = some none ∧ hasDictIn (KK P) C = true
set_option maxHeartbeats 0 in
theorem host_attrs : ∀ n ∈ hostAttrs, GetOk P 407 n ∧ SetOk P 407 n := by
  unfold hostAttrs
  refine List.forall_mem_cons.mpr ⟨⟨⟨by kernel_rfl, by kernel_rfl, none, by kernel_rfl, by kernel_rfl⟩, by kernel_rfl, by kernel_rfl, by kernel_rfl, by kernel_rfl⟩, ?_⟩
  refine List.forall_mem_cons.mpr ⟨⟨⟨by kernel_rfl, by kernel_rfl, none, by kernel_rfl, by kernel_rfl⟩, by kernel_rfl, by kernel_rfl, by kernel_rfl, by kernel_rfl⟩, ?_⟩
  refine List.forall_mem_cons.mpr ⟨⟨⟨by kernel_rfl, by kernel_rfl, none, by kernel_rfl, by kernel_rfl⟩, by kernel_rfl, by kernel_rfl, by kernel_rfl, by kernel_rfl⟩, ?_⟩
  refine List.forall_mem_cons.mpr ⟨⟨⟨by kernel_rfl, by kernel_rfl, none, by kernel_rfl, by kernel_rfl⟩, by kernel_rfl, by kernel_rfl, by kernel_rfl, by kernel_rfl⟩, ?_⟩
  refine List.forall_mem_cons.mpr ⟨⟨⟨by kernel_rfl, by kernel_rfl, none, by kernel_rfl, by kernel_rfl⟩, by kernel_rfl, by kernel_rfl, by kernel_rfl, by kernel_rfl⟩, ?_⟩
  refine List.forall_mem_cons.mpr ⟨⟨⟨by kernel_rfl, by kernel_rfl, none, by kernel_rfl, by kernel_rfl⟩, by kernel_rfl, by kernel_rfl, by kernel_rfl, by kernel_rfl⟩, ?_⟩
  exact List.forall_mem_nil _
set_option maxHeartbeats 0 in
theorem ref_attrs : ∀ n ∈ refAttrs, GetOk P 110 n ∧ SetOk P 110 n := by
  unfold refAttrs
  refine List.forall_mem_cons.mpr ⟨⟨⟨by kernel_rfl, by kernel_rfl, none, by kernel_rfl, by kernel_rfl⟩, by kernel_rfl, by kernel_rfl, by kernel_rfl, by kernel_rfl⟩, ?_⟩
  refine List.forall_mem_cons.mpr ⟨⟨⟨by kernel_rfl, by kernel_rfl, none, by kernel_rfl, by kernel_rfl⟩, by kernel_rfl, by kernel_rfl, by kernel_rfl, by kernel_rfl⟩, ?_⟩
  refine List.forall_mem_cons.mpr ⟨⟨⟨by kernel_rfl, by kernel_rfl, none, by kernel_rfl, by kernel_rfl⟩, by kernel_rfl, by kernel_rfl, by kernel_rfl, by kernel_rfl⟩, ?_⟩
  exact List.forall_mem_nil _
theorem attrs_all {C : Addr} {n : Str} (h : ((C == 407 && hostAttrs.contains n) || (C == 110 && refAttrs.contains n)) = true) : GetOk P C n ∧ SetOk P C n := by
  rcases Bool.or_eq_true_iff.mp h with h | h
  · obtain ⟨a, b⟩ := Bool.and_eq_true_iff.mp h
    rw [beq_iff_eq.mp a]; exact host_attrs P n (List.contains_iff_mem.mp b)
  · obtain ⟨a, b⟩ := Bool.and_eq_true_iff.mp h
    rw [beq_iff_eq.mp a]; exact ref_attrs P n (List.contains_iff_mem.mp b)
noncomputable def MethOk (C : Addr) (n : Str) (f : Addr) : Prop := plainGet (KK P) C n = true ∧ findIn (KK P) (.ref C) n = some (some (.ref f)) ∧ isFn (KK P) (.ref f) = true ∧ keepIn (KK P) (.ref f) = true
set_option maxHeartbeats 0 in
theorem meths_all {C : Addr} {n : Str} {f : Addr} (h : tab.meth C n = some f) : MethOk P C n f := by
  unfold tab at h
  dsimp only at h
  split at h
  · rename_i hC
    rw [beq_iff_eq.mp hC]
    split at h
    · rename_i hn; cases h; rw [beq_iff_eq.mp hn]; exact ⟨by kernel_rfl, by kernel_rfl, by kernel_rfl, by kernel_rfl⟩
    · split at h
      · rename_i hn; cases h; rw [beq_iff_eq.mp hn]; exact ⟨by kernel_rfl, by kernel_rfl, by kernel_rfl, by kernel_rfl⟩
      · split at h
        · rename_i hn; cases h; rw [beq_iff_eq.mp hn]; exact ⟨by kernel_rfl, by kernel_rfl, by kernel_rfl, by kernel_rfl⟩
        · cases h
  · cases h
set_option maxHeartbeats 0 in
theorem ini_all {C fI : Addr} (h : tab.ini C = some fI) : makesIn (KK P) C = true ∧ findIn (KK P) (.ref C) "__init__" = some (some (.ref fI)) ∧ isFn (KK P) (.ref fI) = true ∧ keepIn (KK P) (.ref C) = true := by
  unfold tab at h
  dsimp only at h
  split at h
  · rename_i hC; cases h; rw [beq_iff_eq.mp hC]; exact ⟨by kernel_rfl, by kernel_rfl, by kernel_rfl, by kernel_rfl⟩
  · split at h
    · rename_i hC; cases h; rw [beq_iff_eq.mp hC]; exact ⟨by kernel_rfl, by kernel_rfl, by kernel_rfl, by kernel_rfl⟩
    · cases h
set_option maxHeartbeats 0 in
theorem isi_all {T : String} {c : Value} {b : Bool} (h : tab.isi T c = some b) : kitOne (KK P) (.type T) c = some b := by
  unfold tab at h
  dsimp only at h
  split at h
  · rename_i hT
    have hT : T = "str" ∨ T = "int" := by simpa using hT
    split at h
    · rename_i a
      split at h
      · rename_i ha
        cases h
        have ha : (a = 47 ∨ a = 68) ∨ a = 89 := by simpa using ha
        rcases hT with rfl | rfl <;> rcases ha with (rfl | rfl) | rfl <;> kernel_rfl
      · cases h
    · rename_i t
      split at h
      · rename_i ha
        cases h
        have ha : (t = "str" ∨ t = "int") ∨ t = "tuple" := by simpa using ha
        rcases hT with rfl | rfl <;> rcases ha with (rfl | rfl) | rfl <;> kernel_rfl
      · cases h
    · cases h
  · cases h
end

noncomputable def wd (w : World) (mean : ExcName → Option Value) (mg mb : Str → Option Value) : Wd where
  prog := PySem.Challenge.rw_xm0954_01.row.prog
  w := w
  K := KK w.params
  p := hd.view_39
  loose := looseW hd.view_39 hd.loose
  mean := mean
  mg := mg
  mb := mb
  Tb := tab
theorem wd_ok (w : World) (mean : ExcName → Option Value) (mg mb : Str → Option Value) : TabOk (wd w mean mg mb) where
  glob := fun x pv h => globs_all w.params (x, pv) (lookup_mem h)
  fn := fun f F h => by
    have h : tab.fn f = some F := h
    unfold tab at h
    dsimp only at h
    split at h
    · rename_i hf
      cases h
      exact fns_all w.params f (List.contains_iff_mem.mp hf)
    · cases h
  ini := fun C fI h => ini_all w.params h
  get := fun C n h => (attrs_all w.params h).1
  set := fun C n h => (attrs_all w.params h).2
  meth := fun C n f h => meths_all w.params h
  isi := fun T c b h => isi_all w.params h
end Mine
end D10
section D11
namespace Mine
open PM

section
variable (W : Wd) (k : Nat) (cs : Scope)
/-- the rest of a while -/
noncomputable def WOK (test : PySem.Expr) (body : List Stmt) (ρ : Loc) (σ : List PO) (fl : Fl) (ρ' : Loc) (σ' : List PO) : Prop := ∀ (A : Around) (env : Env) (h₀ : Heap) (L : Addr) (m : Str → Option Value) (D : List Addr) (I : Led) (s : Shared) (cl : List (Str × Addr)),
  XC W k A env h₀ L cs cl → Fr h₀ L s.heap m → W.S h₀ L s.heap σ D I → LR W cs cl I D m ρ → ∀ Q, RetX W cs cl h₀ L D I s σ' fl ρ' Q → WhlRest W.prog W.w A ff env test body [] Q 0 s
end

section
variable {W : Wd} {k : Nat} {cs : Scope} {test : PySem.Expr} {body : List Stmt} {ρ ρ₁ ρ' : Loc} {σ σ₁ σ₂ σ' : List PO} {fl : Fl}
theorem RetX.later {cl : List (Str × Addr)} {h₀ : Heap} {L : Addr} {D D' : List Addr} {I I' : Led} {s : Shared} {h' : Heap} {tk' : Nat} {Q : Flow → Shared → Prop} (hR : RetX W cs cl h₀ L D I s σ' fl ρ' Q) (x : Ext D I D' I') :
    RetX W cs cl h₀ L D' I' { s with heap := h', toks := tk' } σ' fl ρ' Q :=
  fun f h'' tk'' m'' D'' I'' F S y lr fr => hR f h'' tk'' m'' D'' I'' F S (x.trans y) lr fr
theorem WOK.stop (ht : TOK W k cs ρ test σ false σ') : WOK W k cs test body ρ σ .next ρ σ' := by
  intro A env h₀ L m D I s cl xc F S lr Q hR
  refine whl_turn (k := 0) PassesOwn.never (ht A env h₀ L m D I s (xc.ec lr) F S _ fun h' tk' D' I' F' S' x => WhlIf.no rfl (wpAny_execs_nil ?_))
  exact hR .next h' tk' m D' I' F' S' x (lr.later x) trivial
theorem WOK.brk (ht : TOK W k cs ρ test σ true σ₁) (hb : SSOK W k cs ρ body σ₁ .brk ρ' σ') : WOK W k cs test body ρ σ .next ρ' σ' := by
  intro A env h₀ L m D I s cl xc F S lr Q hR
  refine whl_turn (k := 0) PassesOwn.never (ht A env h₀ L m D I s (xc.ec lr) F S _ fun h' tk' D' I' F' S' x => WhlIf.yes rfl ?_)
  refine hb A env h₀ L m D' I' _ cl xc F' S' (lr.later x) _ fun f h'' tk'' m'' D'' I'' F'' S'' y lr'' fr => ?_
  cases f with
  | brk => exact hR .next h'' tk'' m'' D'' I'' F'' S'' (x.trans y) lr'' trivial
  | _ => exact fr.elim
theorem WOK.ret {v : PV} (ht : TOK W k cs ρ test σ true σ₁) (hb : SSOK W k cs ρ body σ₁ (.ret v) ρ' σ') : WOK W k cs test body ρ σ (.ret v) ρ' σ' := by
  intro A env h₀ L m D I s cl xc F S lr Q hR
  refine whl_turn (k := 0) PassesOwn.never (ht A env h₀ L m D I s (xc.ec lr) F S _ fun h' tk' D' I' F' S' x => WhlIf.yes rfl ?_)
  refine hb A env h₀ L m D' I' _ cl xc F' S' (lr.later x) _ fun f h'' tk'' m'' D'' I'' F'' S'' y lr'' fr => ?_
  cases f with
  | ret u => exact hR (.ret u) h'' tk'' m'' D'' I'' F'' S'' (x.trans y) lr'' fr
  | _ => exact fr.elim
theorem WOK.next (ht : TOK W k cs ρ test σ true σ₁) (hb : SSOK W k cs ρ body σ₁ .next ρ₁ σ₂) (hw : WOK W k cs test body ρ₁ σ₂ fl ρ' σ') : WOK W k cs test body ρ σ fl ρ' σ' := by
  intro A env h₀ L m D I s cl xc F S lr Q hR
  refine whl_turn (k := 0) PassesOwn.never (ht A env h₀ L m D I s (xc.ec lr) F S _ fun h' tk' D' I' F' S' x => WhlIf.yes rfl ?_)
  refine hb A env h₀ L m D' I' _ cl xc F' S' (lr.later x) _ fun f h'' tk'' m'' D'' I'' F'' S'' y lr'' fr => ?_
  cases f with
  | next => exact hw A env h₀ L m'' D'' I'' _ cl xc F'' S'' lr'' Q (hR.later (x.trans y))
  | _ => exact fr.elim
theorem WOK.sok {pos : Pos} (hw : WOK W k cs test body ρ σ fl ρ' σ') : SOK W k cs ρ (.While test body [] pos) σ fl ρ' σ' := by
  intro A env h₀ L m D I s cl xc F S lr Q hR
  exact whl_start 0 (hw A env h₀ L m D I s cl xc F S lr Q hR)

theorem SSOK.nil : SSOK W k cs ρ [] σ .next ρ σ := by
  intro A env h₀ L m D I s cl xc F S lr Q hR
  exact wpAny_execs_nil (hR .next s.heap s.toks m D I F S Ext.refl lr trivial)
theorem SSOK.cons {st : Stmt} {r : List Stmt} (h1 : SOK W k cs ρ st σ .next ρ₁ σ₁) (h2 : SSOK W k cs ρ₁ r σ₁ fl ρ' σ') : SSOK W k cs ρ (st :: r) σ fl ρ' σ' := by
  intro A env h₀ L m D I s cl xc F S lr Q hR
  refine wpAny_execs_cons (h1 A env h₀ L m D I s cl xc F S lr _ fun f h' tk' m' D' I' F' S' x lr' fr => ?_)
  cases f with
  | next => exact h2 A env h₀ L m' D' I' _ cl xc F' S' lr' Q (hR.later x)
  | _ => exact fr.elim
theorem SSOK.ret {st : Stmt} {r : List Stmt} {v : PV} (h1 : SOK W k cs ρ st σ (.ret v) ρ' σ') : SSOK W k cs ρ (st :: r) σ (.ret v) ρ' σ' := by
  intro A env h₀ L m D I s cl xc F S lr Q hR
  refine wpAny_execs_cons (h1 A env h₀ L m D I s cl xc F S lr _ fun f h' tk' m' D' I' F' S' x lr' fr => ?_)
  cases f with
  | ret u => exact hR (.ret u) h' tk' m' D' I' F' S' x lr' fr
  | _ => exact fr.elim
theorem SSOK.brk {st : Stmt} {r : List Stmt} (h1 : SOK W k cs ρ st σ .brk ρ' σ') : SSOK W k cs ρ (st :: r) σ .brk ρ' σ' := by
  intro A env h₀ L m D I s cl xc F S lr Q hR
  refine wpAny_execs_cons (h1 A env h₀ L m D I s cl xc F S lr _ fun f h' tk' m' D' I' F' S' x lr' fr => ?_)
  cases f with
  | brk => exact hR .brk h' tk' m' D' I' F' S' x lr' fr
  | _ => exact fr.elim
/-- the first statements, and then the rest -/
theorem SSOK.of_sok {st : Stmt} (h1 : SOK W k cs ρ st σ fl ρ' σ') : SSOK W k cs ρ [st] σ fl ρ' σ' := by
  intro A env h₀ L m D I s cl xc F S lr Q hR
  refine wpAny_execs_cons (h1 A env h₀ L m D I s cl xc F S lr _ fun f h' tk' m' D' I' F' S' x lr' fr => ?_)
  cases f with
  | next => exact wpAny_execs_nil (hR .next h' tk' m' D' I' F' S' x lr' fr)
  | _ => exact hR _ h' tk' m' D' I' F' S' x lr' fr
end
end Mine
end D11
section D12
namespace Mine
open PM

section
variable {prog : Program} {w : World} {A : Around} {E : Value → Shared → Prop} {s : Shared}
/-- the last turn of a list's iterator leaves it an object -/
theorem listEnd {it l : Addr} {i : Nat} {items : Array Value} {Q : Option Value → Shared → Prop} (hh : A.handled = none)
    (hit : s.heap.IsListIter it l i) (hl : s.heap.IsList l items) (hx : items[i]? = none)
    (hQ : ∀ h' o', Heap.ExtBut it s.heap h' → h'.get? it = some o' → Q none { s with heap := h' }) : wpAny (model prog w) A (pyNext (.ref it)) Q E s := by
  obtain ⟨o, ho, hc, hd⟩ := id hit
  obtain ⟨ol, hol, _, nl, hdl⟩ := hl
  unfold pyNext
  refine wpAny_bind (wpAny_attempt (wpAny_callSpecial?_slot (name := Str.ofString "__next__") hit.typeIs slot_listiter_next
    (wpAny_call_entry slot_listiter_next hit.typeIs entry_listiter_next ?_ (args_listiter_next _))))
  show wpAny _ _ (field (.ref it) 0 >>= _) _ _ s
  refine wpAny_bind (wpAny_field ho hd (x := .ref l) rfl ?_)
  show wpAny _ _ (if (Value.ref l == Value.none) = true then _ else _) _ _ s
  rw [if_neg (show ¬ ((Value.ref l == Value.none) = true) from Bool.false_ne_true)]
  show wpAny _ _ (field (.ref it) 1 >>= _) _ _ s
  refine wpAny_bind (wpAny_field ho hd (x := .int i 0) rfl ?_)
  show wpAny _ _ (seqItems? (.ref l) >>= _) _ _ s
  refine wpAny_bind (wpAny_seqItems hol hdl ?_)
  simp only [Int.toNat_natCast, hx]
  refine wpAny_bind (wpAny_rule (wpAny_bind (wpAny_setField ho hd (by simp) ?_)))
  show wpAny _ _ (newExc (.type "StopIteration") [] >>= _) _ _ _
  refine wpAny_bind ?_
  simp only [newExc, newTuple]
  refine wpAny_bind (wpAny_newObj_type ?_ (by size_fits))
  refine wpAny_bind (m := firstArgMember _ _) (wpAny_of_eq (a := Value.none) (by first | rfl | (simp only [firstArgMember]; rfl)) ?_)
  refine wpAny_newObj_type ?_ (by size_fits)
  simp only [raiseNew]
  refine wpAny_bind (wpAny_handled ?_)
  rw [show A.in1.handled = none from hh]
  refine wpAny_bind (wpAny_pure (wpAny_throw ?_))
  refine wpAny_bind (wpAny_isInstance (T := "StopIteration") (b := true) ⟨_, Heap.get?_push_size _ rfl, rfl⟩ isSubtype_stop ?_)
  exact wpAny_pure (hQ _ _ (((Heap.SameBut.update ..).extBut.push _).push _)
    (Heap.get?_push_of_some _ (Heap.get?_push_of_some _ (Heap.get?_update_self _ ho (Obj.isFreed_of_fields (Obj.data_mapFields hd _))))))
theorem rangeEnd {it : Addr} {x left step : Int} {Q : Option Value → Shared → Prop} (hh : A.handled = none) (hit : IsRangeIter s.heap it x left step) (hleft : left ≤ 0)
    (hQ : ∀ h' o', Heap.ExtBut it s.heap h' → h'.get? it = some o' → Q none { s with heap := h' }) : wpAny (model prog w) A (pyNext (.ref it)) Q E s := by
  have hT : s.TypeIs (.ref it) "range_iterator" := ⟨_, hit, rfl⟩
  unfold pyNext
  refine wpAny_bind (wpAny_attempt (wpAny_callSpecial?_slot (name := Str.ofString "__next__") hT F.slot_range_iterator_next
    (wpAny_call_entry F.slot_range_iterator_next hT F.entry_range_iterator_next ?_ (F.args_range_iterator_next_1 _))))
  show wpAny _ _ (field (.ref it) 0 >>= _) _ _ s
  refine wpAny_bind (wpAny_field hit rfl (x := rawInt x) rfl ?_)
  show wpAny _ _ (field (.ref it) 1 >>= _) _ _ s
  refine wpAny_bind (wpAny_field hit rfl (x := rawInt left) rfl ?_)
  show wpAny _ _ (field (.ref it) 2 >>= _) _ _ s
  refine wpAny_bind (wpAny_field hit rfl (x := rawInt step) rfl ?_)
  show wpAny _ _ (if left ≤ 0 then _ else _) _ _ s
  rw [if_pos hleft]
  refine wpAny_bind (wpAny_rule ?_)
  refine wpAny_bind ?_
  show wpAny _ _ (newExc (.type "StopIteration") [] >>= _) _ _ _
  refine wpAny_bind ?_
  simp only [newExc, newTuple]
  refine wpAny_bind (wpAny_newObj_type ?_ (by size_fits))
  refine wpAny_bind (m := firstArgMember _ _) (wpAny_of_eq (a := Value.none) (by first | rfl | (simp only [firstArgMember]; rfl)) ?_)
  refine wpAny_newObj_type ?_ (by size_fits)
  simp only [raiseNew]
  refine wpAny_bind (wpAny_handled ?_)
  first | rw [show A.in1.handled = none from hh] | rw [hh]
  refine wpAny_bind (wpAny_pure (wpAny_throw ?_))
  refine wpAny_bind (wpAny_isInstance (T := "StopIteration") (b := true) ⟨_, Heap.get?_push_size _ rfl, rfl⟩ isSubtype_stop ?_)
  exact wpAny_pure (hQ _ _ (((Heap.ExtBut.refl it s.heap).push _).push _) (Heap.get?_push_of_some _ (Heap.get?_push_of_some _ hit)))

/-- the rest of a for, and one turn of it -/
noncomputable def FRest (prog : Program) (w : World) (A : Around) (env : Env) (target : PySem.Expr) (it : Value) (body : List Stmt) (Q : Flow → Shared → Prop) (s : Shared) : Prop :=
  codeAny (model prog w) A (.forLoop target it body [] env) (fun r s' => match r with | .ok f => Q f s' | .error e => cameBackBy (model prog w) A env ff e s') s
theorem for_turn {env : Env} {target : PySem.Expr} {it : Value} {body : List Stmt} {Q : Flow → Shared → Prop}
    (h : wpAny (model prog w) A (pyNext it) (fun r s₁ => match r with
      | none => Q .next s₁
      | some v => wpAny (model prog w) A (letOwnedTupleGo target it v) (fun _ s₁' => wpAny (model prog w) A (assign target env v) (fun _ s₂ => wpAny (model prog w) A (execs body env) (fun f s₃ => match f with
            | .next => FRest prog w A env target it body Q s₃
            | .cont => FRest prog w A env target it body Q s₃
            | .brk => Q .next s₃
            | .ret v => Q (.ret v) s₃) ff s₂) ff s₁') ff s₁) ff s) :
    FRest prog w A env target it body Q s := by
  have hE : PassesOwn (model prog w) A env ff := PassesOwn.never
  refine codeAny_of_tree ?_
  show wpAny _ A ((forTurn target it body [] env).onRaise (fun x => do noteFrame x env; theTreesLotGoes x)) _ _ s
  refine wpAny_noted ?_
  simp only [forTurn]
  refine wpAny_bind (wpAny_standAt (wpAny_bind (wpAny_onRaise (wpAny_mono h (fun r s₁ h₁ => ?_) fun _ _ h' => h'.elim))))
  cases r with
  | none => exact wpAny_pure ⟨rfl, codeAny_block (wpAny_execs_nil h₁)⟩
  | some v =>
    refine wpAny_bind (wpAny_mono h₁ (fun _ s₁' h₁' => ?_) hE)
    refine wpAny_bind (wpAny_mono h₁' (fun _ s₂ h₂ => wpAny_bind (wpAny_mono h₂ (fun f s₃ h₃ => ?_) hE)) hE)
    cases f with
    | next => exact wpAny_pure ⟨rfl, h₃⟩
    | cont => exact wpAny_pure ⟨rfl, h₃⟩
    | brk => exact wpAny_pure h₃
    | ret v => exact wpAny_pure h₃
end

theorem St.turn {W : Wd} {h₀ h : Heap} {L : Addr} {m : Str → Option Value} {σ : List PO} {D : List Addr} {I : Led} {j : Nat} {po : PO} (F : Fr h₀ L h m) (S : W.S h₀ L h σ D I) (e : σ[j]? = some po) :
    ∃ a o, D[j]? = some a ∧ h.get? a = some o ∧ OR W.prog W.w W.K I D a o po ∧ ∀ h' o' po', OR W.prog W.w W.K I D a o' po' → h'.get? a = some o' → Heap.ExtBut a h h' → Fr h₀ L h' m ∧ W.S h₀ L h' (σ.set j po') D I := by
  obtain ⟨a, o, os, ea, eo, ho, hL, q, N, up⟩ := S.upd e
  refine ⟨a, o, ea, ho, q, fun h' o' po' r ho' x => ⟨⟨F.ns.extBut x hL.symm, fun b y z => x b y ?_ (F.keep b y z), F.above⟩, ?_⟩⟩
  · rintro rfl
    have := (N _ (List.mem_append_left _ (mem_zip_get ea eo))).2.2
    rw [this] at z; cases z
  · have U := up o' po' r
    refine U.2 h' ?_
    obtain ⟨pre, post, e1, e2, h1, h2⟩ := U.1.split
    rw [e2]
    rw [e1] at N
    intro p hp
    rcases List.mem_append.mp hp with m | m
    · have n := N p (List.mem_append_left _ m)
      exact ⟨x _ _ (h1 p m) n.1, n.2⟩
    · rcases List.mem_cons.mp m with rfl | m
      · have n := N (a, o) (List.mem_append_right _ (.head _))
        exact ⟨ho', n.2⟩
      · have n := N p (List.mem_append_right _ (.tail _ m))
        exact ⟨x _ _ (h2 p m) n.1, n.2⟩

section
variable (W : Wd) (k : Nat) (cs : Scope)
/-- a target takes a value -/
noncomputable def GOK (target : PySem.Expr) (ρ : Loc) (pv : PV) (ρ' : Loc) : Prop := ∀ (A : Around) (env : Env) (h₀ : Heap) (L : Addr) (m : Str → Option Value) (D : List Addr) (I : Led) (s : Shared) (cl : List (Str × Addr)) (σ : List PO) (v : Value),
  XC W k A env h₀ L cs cl → Fr h₀ L s.heap m → W.S h₀ L s.heap σ D I → LR W cs cl I D m ρ → W.V I D v pv → ∀ Q : Unit → Shared → Prop,
    (∀ h' tk' m', Fr h₀ L h' m' → W.S h₀ L h' σ D I → LR W cs cl I D m' ρ' → Q () { s with heap := h', toks := tk' }) → wpAny W.M A (assign target env v) Q ff s
noncomputable def goFree : PySem.Expr → PV → Bool
  | .Name _ _, _ => true
  | .Tuple _ _ _, .tup _ => true
  | _, _ => false
noncomputable def FOK (target : PySem.Expr) (body : List Stmt) (j : Nat) (ρ : Loc) (σ : List PO) (fl : Fl) (ρ' : Loc) (σ' : List PO) : Prop := ∀ (A : Around) (env : Env) (h₀ : Heap) (L : Addr) (m : Str → Option Value) (D : List Addr) (I : Led) (s : Shared) (cl : List (Str × Addr)) (it : Addr),
  XC W k A env h₀ L cs cl → Fr h₀ L s.heap m → W.S h₀ L s.heap σ D I → LR W cs cl I D m ρ → D[j]? = some it → ∀ Q, RetX W cs cl h₀ L D I s σ' fl ρ' Q → FRest W.prog W.w A env target (.ref it) body Q s
end

section
variable {W : Wd} {k : Nat} {cs : Scope} {target : PySem.Expr} {body : List Stmt} {ρ ρ₁ ρ₂ ρ' : Loc} {σ σ₁ σ₂ σ' : List PO} {fl : Fl}
theorem GOK.name {x : Str} {p : Pos} {pv : PV} (hx : isLocal cs x = true) : GOK W k cs (.Name x p) ρ pv (setL x pv ρ) := by
  intro A env h₀ L m D I s cl σ v xc F S lr V Q hQ
  exact assign_Name (store_ok xc (isLocal_ok hx) F S lr V fun h' m' F' S' lr' => hQ h' _ m' F' S' lr')
theorem GOK.tuple {ts : List PySem.Expr} {kk} {p : Pos} {l : List PV} {xs : List Str} (hn : namesOf cs ts = some xs) (hl : xs.length = l.length) : GOK W k cs (.Tuple ts kk p) ρ (.tup l) (setAll xs l ρ) := by
  intro A env h₀ L m D I s cl σ v xc F S lr V Q hQ
  obtain ⟨a, rfl⟩ : ∃ a, v = .ref a := by cases V <;> exact ⟨_, rfl⟩
  obtain ⟨vs, ht, hv, _⟩ := isTup_of (xc.gd.X.keeps F.keep) S V
  have nm := storeAll_names (M := W.M) (A := A) (env := env) (Q := Q) (E := ff) hn
  refine assign_Tuple_tuple xc.hh ht (by rw [nm.1, hl, List.size_toArray, hv.length]) nm.2.1 fun h' x => ?_
  exact nm.2.2.2 (storeAll_ok xc hv nm.2.2.1 (Fr.extBut F x (Nat.le_refl _)) (St.ext S x) lr fun h'' m'' tk'' F'' S'' lr'' => hQ h'' tk'' m'' F'' S'' lr'')

theorem FOK.listStop {i j n : Nat} {l : List PV} (h1 : σ[j]? = some (.liter i n)) (h2 : σ[i]? = some (.list l)) (h3 : l.length = n) : FOK W k cs target body j ρ σ .next ρ (σ.set j .any) := by
  intro A env h₀ L m D I s cl it xc F S lr hj Q hR
  obtain ⟨a, o, ea, ho, q, up⟩ := St.turn F S h1
  rw [hj] at ea; cases ea
  cases q with
  | liter hd hc hdat =>
    obtain ⟨al, ol, os, el, eol, hol, _, ql, _, _⟩ := S.upd h2
    rw [hd] at el; cases el
    cases ql with
    | list r =>
      refine for_turn (listEnd xc.hh ⟨_, ho, hc, hdat⟩ ⟨_, hol, rfl, _, rfl⟩ (by simp [r.length, h3]) fun h' o' x ho' => ?_)
      obtain ⟨F', S'⟩ := up h' o' .any .any ho' x
      exact hR .next h' s.toks m D I F' S' Ext.refl lr trivial
theorem FOK.listNext {i j n : Nat} {l : List PV} {pv : PV} (h1 : σ[j]? = some (.liter i n)) (h2 : σ[i]? = some (.list l)) (h3 : l[n]? = some pv) (hg : goFree target pv = true)
    (ht : GOK W k cs target ρ pv ρ₁) (hb : SSOK W k cs ρ₁ body (σ.set j (.liter i (n + 1))) .next ρ₂ σ₂) (hw : FOK W k cs target body j ρ₂ σ₂ fl ρ' σ') : FOK W k cs target body j ρ σ fl ρ' σ' := by
  intro A env h₀ L m D I s cl it xc F S lr hj Q hR
  obtain ⟨a, o, ea, ho, q, up⟩ := St.turn F S h1
  rw [hj] at ea; cases ea
  cases q with
  | liter hd hc hdat =>
    obtain ⟨al, ol, os, el, eol, hol, _, ql, _, _⟩ := S.upd h2
    rw [hd] at el; cases el
    cases ql with
    | list r =>
      obtain ⟨v, ev, V⟩ := r.get h3
      refine for_turn (wpAny_pyNext_list_item ⟨_, ho, hc, hdat⟩ ⟨_, hol, rfl, _, rfl⟩ (x := v) (by simpa using ev) fun h' hit' hs => ?_)
      obtain ⟨o', ho', hc', hd'⟩ := hit'
      obtain ⟨F', S'⟩ := up h' o' (.liter i (n + 1)) (.liter hd hc' hd') ho' hs.extBut
      have fin : ∀ (Q' : Unit → Shared → Prop), Q' () { s with heap := h' } → wpAny (model W.prog W.w) A (letOwnedTupleGo target (.ref it) v) Q' ff { s with heap := h' } := by
        intro Q' hq
        unfold goFree at hg
        split at hg
        · exact wpAny_pure hq
        · obtain ⟨b, rfl⟩ : ∃ a, v = .ref a := by cases V <;> exact ⟨_, rfl⟩
          exact wpAny_letOwnedTupleGo_listiter (i := n + 1) (s := { s with heap := h' }) ⟨_, ho', hc', hd'⟩ hq
        · cases hg
      refine fin _ (ht A env h₀ L m D I { s with heap := h' } cl _ v xc F' S' lr V _ fun h'' tk'' m'' F'' S'' lr'' => ?_)
      refine hb A env h₀ L m'' D I _ cl xc F'' S'' lr'' _ fun f h3 tk3 m3 D3 I3 F3 S3 x3 lr3 fr => ?_
      cases f with
      | next => exact hw A env h₀ L m3 D3 I3 _ cl it xc F3 S3 lr3 (x3.d _ _ hj) Q (hR.later x3)
      | _ => exact fr.elim
theorem FOK.rangeStop {j : Nat} {x left : Int} (h1 : σ[j]? = some (.riter x left)) (h3 : left ≤ 0) : FOK W k cs target body j ρ σ .next ρ (σ.set j .any) := by
  intro A env h₀ L m D I s cl it xc F S lr hj Q hR
  obtain ⟨a, o, ea, ho, q, up⟩ := St.turn F S h1
  rw [hj] at ea; cases ea
  cases q with
  | riter =>
    refine for_turn (rangeEnd xc.hh ho h3 fun h' o' x ho' => ?_)
    obtain ⟨F', S'⟩ := up h' o' .any .any ho' x
    exact hR .next h' s.toks m D I F' S' Ext.refl lr trivial
theorem FOK.rangeNext {j : Nat} {x left : Int} {y : Str} {py : Pos} (h1 : σ[j]? = some (.riter x left)) (h3 : 0 < left)
    (ht : GOK W k cs (.Name y py) ρ (.int x) ρ₁) (hb : SSOK W k cs ρ₁ body (σ.set j (.riter (x + 1) (left - 1))) .next ρ₂ σ₂) (hw : FOK W k cs (.Name y py) body j ρ₂ σ₂ fl ρ' σ') : FOK W k cs (.Name y py) body j ρ σ fl ρ' σ' := by
  intro A env h₀ L m D I s cl it xc F S lr hj Q hR
  obtain ⟨a, o, ea, ho, q, up⟩ := St.turn F S h1
  rw [hj] at ea; cases ea
  cases q with
  | riter =>
    refine for_turn (wpAny_pyNext_range_item ho h3 fun h' hit' hs => ?_)
    obtain ⟨F', S'⟩ := up h' _ (.riter (x + 1) (left - 1)) .riter hit' hs.extBut
    refine wpAny_pure (ht A env h₀ L m D I { s with heap := h', toks := s.toks + 1 } cl _ _ xc F' S' lr (.int _ _) _ fun h'' tk'' m'' F'' S'' lr'' => ?_)
    refine hb A env h₀ L m'' D I _ cl xc F'' S'' lr'' _ fun f h3 tk3 m3 D3 I3 F3 S3 x3 lr3 fr => ?_
    cases f with
    | next => exact hw A env h₀ L m3 D3 I3 _ cl it xc F3 S3 lr3 (x3.d _ _ hj) Q (hR.later x3)
    | _ => exact fr.elim
/-- a for over a list of the store -/
theorem SOK.forList {iter : PySem.Expr} {pos : Pos} {i : Nat} {l : List PV} (hi : EOK W k cs ρ iter σ (.obj i) σ₁) (h2 : σ₁[i]? = some (.list l)) (hs : ∀ env x, foldedSetIterable iter env x = pure x)
    (hw : FOK W k cs target body σ₁.length ρ (σ₁ ++ [.liter i 0]) fl ρ' σ') : SOK W k cs ρ (.For target iter body [] pos) σ fl ρ' σ' := by
  intro A env h₀ L m D I s cl xc F S lr Q hR
  refine wpAny_For (hi A env h₀ L m D I s (xc.ec lr) F S _ fun va ha ta Da Ia Fa Sa xa Va => ?_) (hs env)
  obtain ⟨al, ol, os, el, eol, hol, _, ql, Nn, _⟩ := Sa.upd h2
  cases Va with
  | obj hd =>
    rw [hd] at el; cases el
    cases ql with
    | list r =>
      refine wpAny_pyIter_list ⟨_, hol, rfl, _, rfl⟩ ?_
      have off : (∀ a ∈ Da, a ≠ ha.objs.size) ∧ ∀ p ∈ Ia, p.1 ≠ ha.objs.size := by
        obtain ⟨os', N', Os', _⟩ := Sa
        exact St.off (W := W) Os' (q := ha.objs.size) fun p hp => Heap.lt_size (N' p hp).1
      have S' : W.S h₀ L (ha.push { cls := .type "list_iterator", data := .fields #[.ref al, .int 0 0] }) (σ₁ ++ [.liter i 0]) (Da ++ [ha.objs.size]) Ia :=
        Sa.more off.1 off.2 (.liter ((Ext.snoc (I := Ia)).d _ _ hd) rfl rfl) fun os N => N.push Fa _
      refine hw A env h₀ L m _ Ia { s with heap := _, toks := ta } cl ha.objs.size xc (Fa.push _) S' (lr.later (xa.trans Ext.snoc)) (by rw [← Sa.len]; exact get_snoc) Q (hR.later (xa.trans Ext.snoc))
/-- a for over range(e) -/
theorem SOK.forRange {e : PySem.Expr} {pr cpos : Pos} {pos : Pos} {n : Int} {rg : Str} (hg : nameE W.Tb cs ρ rg = some (.glo (.type "range"))) (hn : noStar [e] = true) (he : LOK W k cs ρ [e] σ [.int n] σ₁) (h0 : 0 ≤ n) (h1 : n < 2 ^ 62)
    (hs : ∀ env x, foldedSetIterable (.Call (.Name rg pr) [e] [] cpos) env x = pure x)
    (hw : FOK W k cs target body σ₁.length ρ (σ₁ ++ [.riter 0 n]) fl ρ' σ') : SOK W k cs ρ (.For target (.Call (.Name rg pr) [e] [] cpos) body [] pos) σ fl ρ' σ' := by
  intro A env h₀ L m D I s cl xc F S lr Q hR
  refine wpAny_For ?_ (hs env)
  rw [call_eq (by intro _ _ _ h; cases h)]
  have ec := xc.ec (D := D) (I := I) lr
  refine wpAny_bind (ec.nm _ _ hg pr s σ D I Ext.refl F S _ fun v V => ?_)
  cases V
  refine callW (P := fun _ => True) (first := []) hn ?_ (he A env h₀ L m D I s cpos ec F S _ fun vals ha ta Da Ia Fa Sa xa Va => ⟨trivial, ?_⟩)
  · exact fun h _ => ⟨.machine, .inr (.inl rfl), Looks.now⟩
  · cases Va with
    | cons V1 V2 =>
      cases V2
      cases V1 with
      | int _ tn =>
      refine call_range_1 ?_
      refine wpAny_pyIter_range (Heap.get?_push_size _ rfl) (small_one (by decide) (by decide) (by omega) h1) ?_
      have e1 : Builtin.Range.rangeSize 0 n 1 = n := by rw [rangeSize_one]; split <;> omega
      rw [e1]
      have Fb := Fa.push { cls := .type "range", data := .fields #[.int 0 ta, .int n tn, .int 1 (ta + 1)] }
      have Sb : W.S h₀ L (ha.push { cls := .type "range", data := .fields #[.int 0 ta, .int n tn, .int 1 (ta + 1)] }) σ₁ Da Ia := St.ext Sa ((Heap.ExtBut.refl _ _).push _)
      have off : ∀ hb : Heap, W.S h₀ L hb σ₁ Da Ia → (∀ a ∈ Da, a ≠ hb.objs.size) ∧ ∀ p ∈ Ia, p.1 ≠ hb.objs.size := by
        rintro hb ⟨os', N', Os', _⟩
        exact St.off (W := W) Os' (q := hb.objs.size) fun p hp => Heap.lt_size (N' p hp).1
      have S' := Sb.more (po := .riter 0 n) (off _ Sb).1 (off _ Sb).2 .riter fun os N => N.push Fb _
      exact hw A env h₀ L m _ Ia { s with heap := _, toks := ta + 1 + 1 } cl _ xc (Fb.push _) S' (lr.later (xa.trans Ext.snoc)) (by rw [← Sb.len]; exact get_snoc) Q (hR.later (xa.trans Ext.snoc))
end
end Mine
end D12
section D13
namespace Mine
open PM

inductive Lay | a | b | c
noncomputable def refO (k : Str) : PO := .attrs [("kind", .str "var"), ("owner", .none), ("key", .str k)]
noncomputable def Lay.pre : Lay → (Nat → PO) → List PO
  | .a, u => [refO "C", refO "X", u 2]
  | .b, u => [refO "C", refO "X", u 2, u 3, u 4, u 5, u 6, u 7, u 8, u 9, u 10, u 11, u 12, u 13, u 14]
  | .c, u => [refO "C", refO "X", u 2, u 3, u 4, u 5, u 6, u 7, u 8, u 9, u 10, u 11, u 12, u 13, u 14, u 15, u 16, u 17, u 18, u 19, u 20, u 21, u 22, u 23, u 24, u 25, refO "X", u 27]
noncomputable def Lay.n : Lay → Nat
  | .a => 3 | .b => 15 | .c => 28
inductive Rf | c | x
noncomputable def Rf.key : Rf → Str
  | .c => "C" | .x => "X"
noncomputable def Lay.ref : Lay → Rf → PV
  | _, .c => .inst 110 0
  | .a, .x => .inst 110 1 | .b, .x => .inst 110 1 | .c, .x => .inst 110 26
noncomputable def stt (y : Lay) (u : Nat → PO) (steps : Int) (vals : List (Str × PV)) (log : List PV) (rest : List PO) : List PO :=
  y.pre u ++ (refO "J" :: u 50 :: u 51 :: .dict vals :: .list [] ::
    .attrs [("values", .obj (y.n + 3)), ("limit", .int 99999), ("refused", .obj (y.n + 4)), ("width", .int 64), ("steps", .int steps), ("log", .obj (y.n + 6))] :: .list log :: .list [] :: .dict [("C", .str "")] :: rest)
noncomputable def Lay.H (y : Lay) : PV := .inst 407 (y.n + 5)
noncomputable def Lay.J (y : Lay) : PV := .inst 110 y.n
noncomputable def Lay.pile (y : Lay) : PV := .obj (y.n + 10)
noncomputable def adv (O : Orc) (y : Lay) (chain : PV) (at_ : Int) (text : Str) (σ : List PO) := pcall tab O 100 20 341 [chain, .int at_, .tup [], .str text, y.pile, y.H] σ
noncomputable def O1 : Orc := { orc0 with big := true }
noncomputable def Ocmp (op : CmpOp) (r : Bool) : Orc := { O1 with cmp := fun o _ _ => match o, op with | .LtE, .LtE => some r | .Lt, .Lt => some r | .Gt, .Gt => some r | _, _ => none }
noncomputable def Oseq (r : Bool) : Orc := { O1 with seq := fun _ _ => some r }
noncomputable def Ocall (f : Addr) (r : PV) (σ' : List PO) : Orc := { O1 with call := fun g _ _ => match g == f with | true => some (r, σ') | false => none }
/-- both -/
noncomputable def Oturn (r : PV) (σ' : List PO) : Orc := { Ocmp .Gt false with call := fun g _ _ => match g == 341 with | true => some (r, σ') | false => none }
noncomputable def Opop (v : PV) (l : List PV) : Orc := { Ocmp .Gt true with pop := fun _ => some (v, l) }

section
variable (y : Lay) (u : Nat → PO) (steps : Int) (vals : List (Str × PV)) (log pile : List PV) (ri : PO) (text : Str) (at_ : Int) (rest : PV)
set_option maxHeartbeats 0
theorem adv_cat (p q : PV) : adv O1 y (.tup [.tup [.str "cat", p, q], rest]) at_ text (stt y u steps vals log [ri, PO.list pile]) = some (.tup [.tup [p, .tup [q, rest]], .int at_, .tup []], (stt y u steps vals log [ri, PO.list pile]), []) := by
  cases y <;> kernel_rfl
theorem adv_now (p r : PV) : adv O1 y (.tup [.tup [.str "now", p, r], rest]) at_ text (stt y u steps vals log [ri, PO.list pile]) = some (.tup [.tup [p, .tup [.tup [.str "end now", r, .int at_], rest]], .int at_, .tup []], (stt y u steps vals log [ri, PO.list pile]), [.le 7 100000]) := by
  cases y <;> kernel_rfl
theorem adv_fail : adv O1 y (.tup [.tup [.str "fail"], rest]) at_ text (stt y u steps vals log [ri, PO.list pile]) = some (.none, (stt y u steps vals log [ri, PO.list pile]), [.le 4 10000]) := by
  cases y <;> kernel_rfl
theorem adv_lenY : adv (Ocmp .LtE true) y (.tup [.tup [.str "len", .int 1], rest]) at_ text (stt y u steps vals log [ri, PO.list pile]) = some (.tup [rest, .int (at_ + 1), .tup []], (stt y u steps vals log [ri, PO.list pile]), [.le 3 10000, .le text.length 10000, .cmp .LtE (at_ + 1) text.length true]) := by
  cases y <;> kernel_rfl
theorem adv_lenN : adv (Ocmp .LtE false) y (.tup [.tup [.str "len", .int 1], rest]) at_ text (stt y u steps vals log [ri, PO.list pile]) = some (.none, (stt y u steps vals log [ri, PO.list pile]), [.le 3 10000, .le text.length 10000, .cmp .LtE (at_ + 1) text.length false]) := by
  cases y <;> kernel_rfl
theorem adv_arbY : adv (Ocmp .Lt true) y (.tup [.tup [.str "arb"], rest]) at_ text (stt y u steps vals log [ri, PO.list pile]) = some (.tup [rest, .int at_, .tup []], stt y u steps vals log [ri, .list (pile ++ [.tup [.tup [.tup [.str "arb"], rest], .int (at_ + 1), .tup []]])], [.le 3 10000, .le text.length 10000, .cmp .Lt at_ text.length true, .le pile.length 10000]) := by
  cases y <;> kernel_rfl
theorem adv_arbN : adv (Ocmp .Lt false) y (.tup [.tup [.str "arb"], rest]) at_ text (stt y u steps vals log [ri, PO.list pile]) = some (.tup [rest, .int at_, .tup []], (stt y u steps vals log [ri, PO.list pile]), [.le 3 10000, .le text.length 10000, .cmp .Lt at_ text.length false]) := by
  cases y <;> kernel_rfl
theorem ce_Y (s : Str) (σ : List PO) : pcall tab (Oseq true) 100 16 208 [.str text, .int at_, .str s] σ = some (.int (at_ + s.length), σ, [.le s.length 10000, .le text.length 10000, .seq (Txt.slice text (some at_) (some (at_ + s.length))) s true]) := by
  kernel_rfl
theorem ce_N (s : Str) (σ : List PO) : pcall tab (Oseq false) 100 16 208 [.str text, .int at_, .str s] σ = some (.none, σ, [.le s.length 10000, .le text.length 10000, .seq (Txt.slice text (some at_) (some (at_ + s.length))) s false]) := by
  kernel_rfl
theorem adv_charsY (s : Str) (e : Int) : adv (Ocall 208 (.int e) (stt y u steps vals log [ri, PO.list pile])) y (.tup [.tup [.str "chars", .str s], rest]) at_ text (stt y u steps vals log [ri, PO.list pile]) = some (.tup [rest, .int e, .tup []], (stt y u steps vals log [ri, PO.list pile]), [.le 5 10000, .call 16 208 [.str text, .int at_, .str s] (stt y u steps vals log [ri, PO.list pile]) (.int e) (stt y u steps vals log [ri, PO.list pile])]) := by
  cases y <;> kernel_rfl
theorem adv_charsN (s : Str) : adv (Ocall 208 .none (stt y u steps vals log [ri, PO.list pile])) y (.tup [.tup [.str "chars", .str s], rest]) at_ text (stt y u steps vals log [ri, PO.list pile]) = some (.none, (stt y u steps vals log [ri, PO.list pile]), [.le 5 10000, .call 16 208 [.str text, .int at_, .str s] (stt y u steps vals log [ri, PO.list pile]) .none (stt y u steps vals log [ri, PO.list pile])]) := by
  cases y <;> kernel_rfl
theorem val_of (k : Str) : pcall tab O1 100 19 390 [y.H, .tup [.str "name", .str k]] (stt y u steps vals log [ri, PO.list pile]) = some ((vals.lookup k).getD (.str ""), (stt y u steps vals log [ri, PO.list pile]), []) := by
  cases y <;> kernel_rfl
theorem adv_delay (k s : Str) : adv (Ocall 390 (.str s) (stt y u steps vals log [ri, PO.list pile])) y (.tup [.tup [.str "delay", .tup [.str "name", .str k]], rest]) at_ text (stt y u steps vals log [ri, PO.list pile]) = some (.tup [.tup [.tup [.str "chars", .str s], rest], .int at_, .tup []], (stt y u steps vals log [ri, PO.list pile]), [.le 5 10000, .call 19 390 [y.H, .tup [.str "name", .str k]] (stt y u steps vals log [ri, PO.list pile]) (.str s) (stt y u steps vals log [ri, PO.list pile])]) := by
  cases y <;> kernel_rfl
theorem adv_end (r : Rf) (b : Int) : adv O1 y (.tup [.tup [.str "end now", y.ref r, .int b], rest]) at_ text (stt y u steps vals log [ri, PO.list pile]) = some (.tup [rest, .int at_, .tup []],
    stt y u steps (putA r.key (.str (Txt.slice text (some b) (some at_))) vals) (log ++ [.tup [.str r.key, .str (Txt.slice text (some b) (some at_))]]) [ri, PO.list pile], [.le 7 10000, .le text.length 10000, .le vals.length 500, .le log.length 10000]) := by
  cases y <;> cases r <;> kernel_rfl
theorem adv_cursor : adv O1 y (.tup [.tup [.str "cursor", y.J], rest]) at_ text (stt y u steps vals log [ri, PO.list pile]) = some (.tup [rest, .int at_, .tup []],
    stt y u steps (putA "J" (.int at_) vals) (log ++ [.tup [.str "J", .int at_]]) [ri, PO.list pile], [.le 6 10000, .le vals.length 500, .le log.length 10000]) := by
  cases y <;> kernel_rfl
end

noncomputable def whT : Stmt → PySem.Expr
  | .While t _ _ _ => t
  | _ => .Constant .none 0 default
noncomputable def whB : Stmt → List Stmt
  | .While _ b _ _ => b
  | .For _ _ b _ _ => b
  | _ => []
noncomputable def whP : Stmt → Pos
  | .While _ _ _ p => p
  | .For _ _ _ _ p => p
  | _ => default
noncomputable def foT : Stmt → PySem.Expr
  | .For t _ _ _ _ => t
  | _ => .Constant .none 0 default
noncomputable def foI : Stmt → PySem.Expr
  | .For _ i _ _ _ => i
  | _ => .Constant .none 0 default
noncomputable def bd (f : Addr) (i : Nat) : Stmt := (fnAt f).body.getD i (.Break default)
noncomputable def csT : Scope := (fnAt 334).scope
noncomputable abbrev outB : List Stmt := whB (bd 334 1)
noncomputable def oB (i : Nat) : Stmt := (whB (bd 334 1)).getD i (.Break default)
noncomputable abbrev innB : List Stmt := whB (oB 3)
theorem tried_body : (fnAt 334).body = [bd 334 0, .While (whT (bd 334 1)) (whB (bd 334 1)) [] (whP (bd 334 1)), bd 334 2] := by kernel_rfl
theorem tried_out : whB (bd 334 1) = [oB 0, oB 1, oB 2, .While (whT (oB 3)) (whB (oB 3)) [] (whP (oB 3)), oB 4] := by kernel_rfl

noncomputable def lo0 (y : Lay) (nd : PV) (text : Str) (begin_ : Int) : Loc := [("node", nd), ("subject", .str text), ("begin", .int begin_), ("host", y.H), ("pile", y.pile)]
noncomputable def lo0w (y : Lay) (nd : PV) (text : Str) (begin_ : Int) (way : PV) : Loc := [("node", nd), ("subject", .str text), ("begin", .int begin_), ("host", y.H), ("pile", y.pile), ("way", way)]
noncomputable def lo1 (y : Lay) (nd : PV) (text : Str) (begin_ : Int) (way chain at_ : PV) : Loc := [("node", nd), ("subject", .str text), ("begin", .int begin_), ("host", y.H), ("pile", y.pile), ("way", way), ("chain", chain), ("at", at_), ("named", .tup [])]

section
variable (y : Lay) (u : Nat → PO) (steps : Int) (vals : List (Str × PV)) (log pile : List PV) (ri : PO) (text : Str) (begin_ at_ : Int) (nd way chain a : PV)
set_option maxHeartbeats 0
theorem tr_start : px tab O1 100 20 csT [("node", nd), ("subject", .str text), ("begin", .int begin_), ("host", y.H)] (bd 334 0) (stt y u steps vals log [ri]) =
    some ((.next, lo0 y nd text begin_), stt y u steps vals log [ri, .list [.tup [.tup [nd, .none], .int begin_, .tup []]]], []) := by
  cases y <;> kernel_rfl
theorem tr_test0Y : pt tab (Ocmp .Gt true) 100 20 csT (lo0 y nd text begin_) (whT (bd 334 1)) (stt y u steps vals log [ri, PO.list pile]) = some (true, (stt y u steps vals log [ri, PO.list pile]), [.le pile.length 10000, .cmp .Gt pile.length 0 true]) := by
  cases y <;> kernel_rfl
theorem tr_test1Y : pt tab (Ocmp .Gt true) 100 20 csT (lo1 y nd text begin_ way chain a) (whT (bd 334 1)) (stt y u steps vals log [ri, PO.list pile]) = some (true, (stt y u steps vals log [ri, PO.list pile]), [.le pile.length 10000, .cmp .Gt pile.length 0 true]) := by
  cases y <;> kernel_rfl
theorem tr_test1N : pt tab (Ocmp .Gt false) 100 20 csT (lo1 y nd text begin_ way chain a) (whT (bd 334 1)) (stt y u steps vals log [ri, PO.list pile]) = some (false, (stt y u steps vals log [ri, PO.list pile]), [.le pile.length 10000, .cmp .Gt pile.length 0 false]) := by
  cases y <;> kernel_rfl
theorem tr_pop0 (c b : PV) (l : List PV) : px tab (Opop (.tup [c, b, .tup []]) l) 100 20 csT (lo0 y nd text begin_) (oB 0) (stt y u steps vals log [ri, PO.list pile]) = some ((.next, lo0w y nd text begin_ (.tup [c, b, .tup []])), stt y u steps vals log [ri, .list l], [.pop pile (.tup [c, b, .tup []]) l]) := by
  cases y <;> kernel_rfl
theorem tr_if0 (l : List PV) (σ : List PO) : px tab O1 100 20 csT (lo0w y nd text begin_ (.tup l)) (oB 1) σ = some ((.next, lo0w y nd text begin_ (.tup l)), σ, []) := by
  kernel_rfl
theorem tr_unp0 (c b : PV) (σ : List PO) : px tab O1 100 20 csT (lo0w y nd text begin_ (.tup [c, b, .tup []])) (oB 2) σ = some ((.next, lo1 y nd text begin_ (.tup [c, b, .tup []]) c b), σ, []) := by
  kernel_rfl
theorem tr_pop1 (c b : PV) (l : List PV) : px tab (Opop (.tup [c, b, .tup []]) l) 100 20 csT (lo1 y nd text begin_ way chain a) (oB 0) (stt y u steps vals log [ri, PO.list pile]) = some ((.next, lo1 y nd text begin_ (.tup [c, b, .tup []]) chain a), stt y u steps vals log [ri, .list l], [.pop pile (.tup [c, b, .tup []]) l]) := by
  cases y <;> kernel_rfl
theorem tr_if1 (l : List PV) (σ : List PO) : px tab O1 100 20 csT (lo1 y nd text begin_ (.tup l) chain a) (oB 1) σ = some ((.next, lo1 y nd text begin_ (.tup l) chain a), σ, []) := by
  kernel_rfl
theorem tr_unp1 (c b : PV) (σ : List PO) : px tab O1 100 20 csT (lo1 y nd text begin_ (.tup [c, b, .tup []]) chain a) (oB 2) σ = some ((.next, lo1 y nd text begin_ (.tup [c, b, .tup []]) c b), σ, []) := by
  kernel_rfl
theorem tr_inTest (l : List PV) (σ : List PO) : pt tab O1 100 20 csT (lo1 y nd text begin_ way (.tup l) a) (whT (oB 3)) σ = some (true, σ, []) := by
  kernel_rfl
theorem tr_turnY (c b : PV) (σ' : List PO) : pxs tab (Oturn (.tup [c, b, .tup []]) σ') 100 20 csT (lo1 y nd text begin_ way chain a) (whB (oB 3)) (stt y u steps vals log [ri, PO.list pile]) =
    some ((.next, lo1 y nd text begin_ (.tup [c, b, .tup []]) c b), σ', [.cmp .Gt (steps + 1) 99999 false, .call 20 341 [chain, a, .tup [], .str text, y.pile, y.H] (stt y u (steps + 1) vals log [ri, PO.list pile]) (.tup [c, b, .tup []]) σ']) := by
  cases y <;> kernel_rfl
theorem tr_turnN (σ' : List PO) : pxs tab (Oturn .none σ') 100 20 csT (lo1 y nd text begin_ way chain a) (whB (oB 3)) (stt y u steps vals log [ri, PO.list pile]) =
    some ((.brk, lo1 y nd text begin_ .none chain a), σ', [.cmp .Gt (steps + 1) 99999 false, .call 20 341 [chain, a, .tup [], .str text, y.pile, y.H] (stt y u (steps + 1) vals log [ri, PO.list pile]) .none σ']) := by
  cases y <;> kernel_rfl
theorem tr_tail (l : List PV) (σ : List PO) : px tab O1 100 20 csT (lo1 y nd text begin_ way (.tup l) a) (oB 4) σ = some ((.next, lo1 y nd text begin_ way (.tup l) a), σ, []) := by
  kernel_rfl
theorem tr_end (ρ : Loc) (σ : List PO) : px tab O1 100 20 csT ρ (bd 334 2) σ = some ((.ret .none, ρ), σ, []) := by
  kernel_rfl
end
end Mine
end D13
section D14
namespace Mine
open PM

mutual
noncomputable def PV.lt (n : Nat) : PV → Bool
  | .tup l => ltL n l
  | .obj i => Nat.blt i n
  | .inst _ i => Nat.blt i n
  | _ => true
noncomputable def ltL (n : Nat) : List PV → Bool
  | [] => true
  | p :: r => p.lt n && ltL n r
end
noncomputable def ltA (n : Nat) : List (Str × PV) → Bool
  | [] => true
  | p :: r => p.2.lt n && ltA n r
noncomputable def PO.lt (n : Nat) : PO → Bool
  | .list l => ltL n l
  | .attrs l => ltA n l
  | .dict l => ltA n l
  | .liter i _ => Nat.blt i n
  | _ => true
noncomputable def ltS (n : Nat) : List PO → Bool
  | [] => true
  | p :: r => p.lt n && ltS n r

theorem take_get {α : Type} {D : List α} {n i : Nat} {a : α} (h : D[i]? = some a) (hi : i < n) : (D.take n)[i]? = some a := by
  rw [List.getElem?_take_of_lt hi]; exact h
section
variable {K : Frag} {I : Led} {D : List Addr} {n : Nat}
mutual
theorem VR.cut : ∀ {v : Value} {p : PV}, VR K I D v p → p.lt n = true → VR K I (D.take n) v p
  | _, _, .none, _ => .none
  | _, _, .bool b, _ => .bool b
  | _, _, .int i t, _ => .int i t
  | _, _, .str s t, _ => .str s t
  | _, _, .tup h r, q => .tup h (VRs.cut r q)
  | _, _, .ktup h r, q => .ktup h (VRs.cut r q)
  | _, _, .obj h, q => .obj (take_get h (by simpa [PV.lt, Nat.blt_eq] using q))
  | _, _, .inst h d, q => .inst h (take_get d (by simpa [PV.lt, Nat.blt_eq] using q))
  | _, _, .glo v, _ => .glo v
theorem VRs.cut : ∀ {vs : List Value} {ps : List PV}, VRs K I D vs ps → ltL n ps = true → VRs K I (D.take n) vs ps
  | _, _, .nil, _ => .nil
  | _, _, .cons h r, q => by
    have q' := Bool.and_eq_true_iff.mp q
    exact .cons (VR.cut h q'.1) (VRs.cut r q'.2)
end
theorem ERs.cut {P : Params} {es : List DictEntry} {l : List (Str × PV)} (h : ERs K I D P es l) : ltA n l = true → ERs K I (D.take n) P es l := by
  induction h with
  | nil => exact fun _ => .nil
  | cons a _ ih => intro q; have q' := Bool.and_eq_true_iff.mp q; exact .cons (a.cut q'.1) (ih q'.2)
theorem KRs.cut {es : List (Str × Value)} {l : List (Str × PV)} (h : KRs K I D es l) : ltA n l = true → KRs K I (D.take n) es l := by
  induction h with
  | nil => exact fun _ => .nil
  | cons a _ ih => intro q; have q' := Bool.and_eq_true_iff.mp q; exact .cons (a.cut q'.1) (ih q'.2)
theorem OR.cut {prog : Program} {w : World} {a : Addr} {o : Obj} {p : PO} (h : OR prog w K I D a o p) (q : p.lt n = true) : OR prog w K I (D.take n) a o p := by
  cases h with
  | list r => exact .list (r.cut q)
  | attrs r => exact .attrs (r.cut q)
  | dict x y r => exact .dict x y (r.cut q)
  | liter x y z => exact .liter (take_get x (by simpa [PO.lt, Nat.blt_eq] using q)) y z
  | riter => exact .riter
  | any => exact .any
theorem ORs.cut {prog : Program} {w : World} {as : List Addr} {os : List Obj} {ps : List PO} (h : ORs prog w K I D as os ps) : ltS n ps = true → ORs prog w K I (D.take n) as os ps := by
  induction h with
  | nil => exact fun _ => .nil
  | cons a _ ih => intro q; have q' := Bool.and_eq_true_iff.mp q; exact .cons (a.cut q'.1) (ih q'.2)
theorem ORs.take {prog : Program} {w : World} {as : List Addr} {os : List Obj} {ps : List PO} (h : ORs prog w K I D as os ps) : ∀ m, ORs prog w K I D (as.take m) (os.take m) (ps.take m) := by
  induction h with
  | nil => intro m; simp; exact .nil
  | cons a _ ih => intro m; cases m with
    | zero => simp only [List.take_zero]; exact .nil
    | succ m => exact .cons a (ih m)
end
theorem zip_take {α β : Type} : ∀ {m : Nat} {as : List α} {bs : List β} {p : α × β}, p ∈ (as.take m).zip (bs.take m) → p ∈ as.zip bs
  | 0, _, _, _, h => by simp at h
  | _ + 1, [], _, _, h => by simp at h
  | _ + 1, _ :: _, [], _, h => by simp at h
  | m + 1, a :: as, b :: bs, p, h => by
    rcases List.mem_cons.mp h with rfl | h
    · exact .head _
    · exact .tail _ (zip_take h)
/-- what nothing names any more may go -/
theorem St.drop {prog : Program} {w : World} {K : Frag} {h₀ h : Heap} {L : Addr} {σ g : List PO} {D : List Addr} {I : Led} (S : St prog w K h₀ L h (σ ++ g) D I) (q : ltS σ.length σ = true) : St prog w K h₀ L h σ (D.take σ.length) I := by
  obtain ⟨os, N, O, nd, ap⟩ := S
  refine ⟨os.take σ.length, fun p hp => ?_, ?_, nd.sublist (List.take_sublist _ _), fun p hp hm => ap p hp (List.mem_of_mem_take hm)⟩
  · rcases List.mem_append.mp hp with m | m
    · exact N p (List.mem_append_left _ (zip_take m))
    · exact N p (List.mem_append_right _ m)
  · have := O.take σ.length
    rw [List.take_append_of_le_length (Nat.le_refl _), List.take_length] at this
    exact this.cut q
theorem Ext.cut {D D' : List Addr} {I I' : Led} {n : Nat} (x : Ext D I D' I') (hn : D.length ≤ n) : Ext D I (D'.take n) I' :=
  ⟨fun i a h => take_get (x.d i a h) (by
    have : i < D.length := by
      by_cases q : i < D.length
      · exact q
      · rw [List.getElem?_eq_none (by omega)] at h; cases h
    omega), x.i⟩
theorem COK.drop {W : Wd} {k : Nat} {f : Addr} {args : List PV} {σ σ' g : List PO} {r : PV} (h : COK W k f args σ r (σ' ++ g)) (q : ltS σ'.length σ' = true) (qr : r.lt σ'.length = true) (hl : σ.length ≤ σ'.length) : COK W k f args σ r σ' := by
  intro A env h₀ L m D I s vals gd hh un cx F S V R hR
  refine h A env h₀ L m D I s vals gd hh un cx F S V R fun val h' tk' D' I' F' S' x V' => ?_
  exact hR val h' tk' (D'.take σ'.length) I' F' (St.drop S' q) (x.cut (by rw [S.len]; exact hl)) (V'.cut qr)

/-- a function from its body -/
theorem COK.body {W : Wd} {j : Nat} {f : Addr} {F : Fn} {vs : List PV} {σ σ' : List PO} {fl : Fl} {ρ' : Loc} {v : PV} (ok : TabOk W) (hf : W.Tb.fn f = some F) (hl : vs.length = F.params.length)
    (hx : SSOK W j F.scope (F.params.zip vs) F.body σ fl ρ' σ') (hfl : fl = .ret v ∨ (fl = .next ∧ v = .none)) : COK W (j + 1) f vs σ v σ' := by
  intro A env h₀ L m D I s vals gd hh un cx Fm S V R hR
  obtain ⟨⟨name, params, dV, kV, doc, pm, an, cdv, ct, oc, od, osl, q1, q2, q3⟩, loc, nd, co, gen, kd, cell, keep⟩ := ok.fn f F hf
  obtain ⟨A₀, base, outer, B, hA⟩ := cx.B
  obtain ⟨os, N, Os, ndD, ap⟩ := S
  have hlen : vals.length = F.params.length := V.length.trans hl
  refine code_def B Fm gd.X N gd.T hA cx.ef cx.ek q1 q2 (by have := cx.dep; omega) (BindsTo.of_eq (q3 vals hlen)) (fun y hy => loc _ (List.of_mem_zip hy).1) (fun g L' h₁ Fg F' N' B' X' T' => ?_) co gen kd cell
  have x1 : XC W j (A.deeper (envOf F.qual F.scope L' f cdv)) (envX F.qual F.scope L' f cdv []) g L' F.scope [] :=
    ⟨ok, ⟨X', T'⟩, hh, by rw [units_deeper]; omega, ⟨⟨A, base, env :: outer, B', by show A.frames.map _ = _; rw [hA]; rfl⟩, rfl, kd, by rw [depth_deeper]; have := cx.dep; omega⟩, ⟨_, _, _, rfl⟩, kd⟩
  refine wpAny_mono (hx _ _ g L' _ D I { s with heap := h₁, toks := s.toks + (F.params.zip vals).length } [] x1 F' ⟨os, N', Os, ndD, ap⟩ (fun y pv e => ?_) _ (fun f' h' tk' m' D' I' F'' S'' xx lr fr => ?_)) (fun _ _ q => q) (fun _ _ q => q.elim)
  · have hm := (List.of_mem_zip (lookup_mem e)).1
    rw [loc y hm]
    obtain ⟨v', e', V'⟩ := lookup_zip V nd e
    exact ⟨v', lookup_reverse (by rw [zip_names hlen]; exact nd) e', V'⟩
  · obtain ⟨os', N'', r⟩ := S''
    refine leaveK_ F'' N'' fun Fh Nh => ?_
    have hS : W.S h₀ L h' σ' D' I' := ⟨os', Nh, r⟩
    rcases hfl with rfl | ⟨rfl, rfl⟩
    · cases f' with
      | ret u => exact hR u h' tk' D' I' Fh hS xx fr
      | _ => exact fr.elim
    · cases f' with
      | next => exact hR .none h' tk' D' I' Fh hS xx .none
      | _ => exact fr.elim

section
variable {W : Wd} (ok : TabOk W) {O : Orc} {n k : Nat} {cs : Scope} {ρ ρ' : Loc} {σ σ' : List PO} {C : List Con} {fl : Fl}
include ok
theorem COK.ev {f : Addr} {vs : List PV} {v : PV} (h : pcall W.Tb O n k f vs σ = some (v, σ', C)) (hc : ∀ c ∈ C, c.holds W) : COK W k f vs σ v σ' := (snd W O n).c ok _ _ _ _ _ _ _ h hc
omit ok
theorem SOK.ev {st : Stmt} (h : px W.Tb O n k cs ρ st σ = some ((fl, ρ'), σ', C)) (hc : ∀ c ∈ C, c.holds W) : SOK W k cs ρ st σ fl ρ' σ' := (snd W O n).s _ _ _ _ _ _ _ _ _ h hc
theorem SSOK.ev {ss : List Stmt} (h : pxs W.Tb O n k cs ρ ss σ = some ((fl, ρ'), σ', C)) (hc : ∀ c ∈ C, c.holds W) : SSOK W k cs ρ ss σ fl ρ' σ' := (snd W O n).ss _ _ _ _ _ _ _ _ _ h hc
theorem TOK.ev {e : PySem.Expr} {b : Bool} (h : pt W.Tb O n k cs ρ e σ = some (b, σ', C)) (hc : ∀ c ∈ C, c.holds W) : TOK W k cs ρ e σ b σ' := (snd W O n).t _ _ _ _ _ _ _ _ h hc
theorem EOK.ev {e : PySem.Expr} {v : PV} (h : pe W.Tb O n k cs ρ e σ = some (v, σ', C)) (hc : ∀ c ∈ C, c.holds W) : EOK W k cs ρ e σ v σ' := (snd W O n).e _ _ _ _ _ _ _ _ h hc
theorem LOK.ev {e : List PySem.Expr} {v : List PV} (h : pes W.Tb O n k cs ρ e σ = some (v, σ', C)) (hc : ∀ c ∈ C, c.holds W) : LOK W k cs ρ e σ v σ' := (snd W O n).l _ _ _ _ _ _ _ _ h hc
end
end Mine
end D14
section D15
namespace Mine
open PM

inductive Nd where
  | cat (a b : Nd) | now (p : Nd) (r : Rf) | len1 | arb | delay (r : Rf) | endn (r : Rf) (b : Int) | chars (s : Str) | cursor | fail
noncomputable def Nd.pv (y : Lay) : Nd → PV
  | .cat a b => .tup [.str "cat", a.pv y, b.pv y]
  | .now p r => .tup [.str "now", p.pv y, y.ref r]
  | .len1 => .tup [.str "len", .int 1]
  | .arb => .tup [.str "arb"]
  | .delay r => .tup [.str "delay", .tup [.str "name", .str r.key]]
  | .endn r b => .tup [.str "end now", y.ref r, .int b]
  | .chars s => .tup [.str "chars", .str s]
  | .cursor => .tup [.str "cursor", y.J]
  | .fail => .tup [.str "fail"]
noncomputable def chPV (y : Lay) : List Nd → PV
  | [] => .none
  | n :: r => .tup [n.pv y, chPV y r]
noncomputable abbrev Way := List Nd × Int
noncomputable def wayPV (y : Lay) (w : Way) : PV := .tup [chPV y w.1, .int w.2, .tup []]
noncomputable def pilePV (y : Lay) (l : List Way) : List PV := (l.map (wayPV y)).reverse

inductive Ev where
  | c (s : Str) | x (s : Str) | j (n : Int)
noncomputable def Ev.key : Ev → Str
  | .c _ => "C" | .x _ => "X" | .j _ => "J"
noncomputable def Ev.val : Ev → PV
  | .c s => .str s | .x s => .str s | .j n => .int n
noncomputable def evKV (e : Ev) : Str × PV := (e.key, e.val)
noncomputable def evPV (e : Ev) : PV := .tup [.str e.key, e.val]
noncomputable def valsPV (l : List Ev) : List (Str × PV) := l.map evKV
noncomputable def logPV (l : List Ev) : List PV := (l.map evPV).reverse
noncomputable def Rf.ev : Rf → Str → Ev
  | .c, s => .c s | .x, s => .x s
noncomputable def sameK : Ev → Ev → Bool
  | .c _, .c _ => true | .x _, .x _ => true | .j _, .j _ => true | _, _ => false
noncomputable def putEv (e : Ev) : List Ev → List Ev
  | [] => [e]
  | f :: r => match sameK f e with | true => e :: r | false => f :: putEv e r
noncomputable def getEv (r : Rf) : List Ev → Str
  | [] => ""
  | e :: l => match e, r with
    | .c s, .c => s
    | .x s, .x => s
    | _, _ => getEv r l
theorem key_same (f e : Ev) : (f.key == e.key) = sameK f e := by
  cases f <;> cases e <;> kernel_rfl
theorem put_ev (e : Ev) : ∀ l, putA e.key e.val (valsPV l) = valsPV (putEv e l)
  | [] => rfl
  | f :: r => by
    unfold putEv valsPV
    show putA e.key e.val ((f.key, f.val) :: valsPV r) = _
    unfold putA
    rw [key_same]
    cases h : sameK f e with
    | true =>
      have : f.key = e.key := beq_iff_eq.mp (by rw [key_same]; exact h)
      simp [evKV, this, valsPV]
    | false => simp only [List.map_cons]; rw [put_ev e r]; rfl
theorem get_ev (r : Rf) : ∀ l, ((valsPV l).lookup r.key).getD (.str "") = .str (getEv r l)
  | [] => rfl
  | e :: l => by
    unfold getEv valsPV
    rw [List.map_cons, show evKV e = (e.key, e.val) from rfl, List.lookup_cons]
    have ih := get_ev r l
    unfold valsPV at ih
    cases e <;> cases r
    case c.c => rw [show (Rf.c.key == (Ev.c _).key) = true from rfl]; rfl
    case x.x => rw [show (Rf.x.key == (Ev.x _).key) = true from rfl]; rfl
    case c.x => rw [show (Rf.x.key == (Ev.c _).key) = false from rfl]; exact ih
    case x.c => rw [show (Rf.c.key == (Ev.x _).key) = false from rfl]; exact ih
    case j.c => rw [show (Rf.c.key == (Ev.j _).key) = false from rfl]; exact ih
    case j.x => rw [show (Rf.x.key == (Ev.j _).key) = false from rfl]; exact ih
theorem len_vals (l : List Ev) : (valsPV l).length = l.length := by simp [valsPV]
theorem len_log (l : List Ev) : (logPV l).length = l.length := by simp [logPV]
theorem len_pile (y : Lay) (l : List Way) : (pilePV y l).length = l.length := by simp [pilePV]
theorem log_cons (e : Ev) (l : List Ev) : logPV l ++ [evPV e] = logPV (e :: l) := by simp [logPV]
theorem pile_cons (y : Lay) (w : Way) (l : List Way) : pilePV y l ++ [wayPV y w] = pilePV y (w :: l) := by simp [pilePV]

inductive Res where
  | go (ch : List Nd) (at_ : Int) (pile : List Way) (vals log : List Ev) | back | bad
noncomputable def nx (text : Str) (nd : Nd) (r : List Nd) (at_ : Int) (pile : List Way) (vals log : List Ev) : Res := match nd with
  | .cat a b => .go (a :: b :: r) at_ pile vals log
  | .now p f => .go (p :: .endn f at_ :: r) at_ pile vals log
  | .len1 => match decide (at_ + 1 ≤ (text.length : Int)) with
    | true => .go r (at_ + 1) pile vals log
    | false => .back
  | .arb => match decide (at_ < (text.length : Int)) with
    | true => .go r at_ ((.arb :: r, at_ + 1) :: pile) vals log
    | false => .go r at_ pile vals log
  | .delay f => .go (.chars (getEv f vals) :: r) at_ pile vals log
  | .endn f b => match Nat.ble vals.length 500 with
    | true => .go r at_ pile (putEv (f.ev (Txt.slice text (some b) (some at_))) vals) (f.ev (Txt.slice text (some b) (some at_)) :: log)
    | false => .bad
  | .chars s => match Nat.ble s.length 10000 with
    | true => match Txt.slice text (some at_) (some (at_ + s.length)) == s with
      | true => .go r (at_ + s.length) pile vals log
      | false => .back
    | false => .bad
  | .cursor => match Nat.ble vals.length 500 with
    | true => .go r at_ pile (putEv (.j at_) vals) (.j at_ :: log)
    | false => .bad
  | .fail => .back
noncomputable def run (text : Str) : Nat → List Nd → Int → List Way → Nat → List Ev → List Ev → Option (Nat × List Ev × List Ev)
  | 0, _, _, _, _, _, _ => none
  | _ + 1, [], _, _, _, _, _ => none
  | n + 1, nd :: r, at_, pile, st, vals, log => match nx text nd r at_ pile vals log with
    | .go ch a p v l => run text n ch a p (st + 1) v l
    | .back => match pile with
      | [] => some (st + 1, vals, log)
      | (ch, a) :: p => run text n ch a p (st + 1) vals log
    | .bad => none
noncomputable def popRun (text : Str) (n : Nat) (pile : List Way) (st : Nat) (vals log : List Ev) : Option (Nat × List Ev × List Ev) := match pile with
  | [] => some (st, vals, log)
  | (ch, a) :: p => run text n ch a p st vals log
theorem run_cons {text : Str} {n : Nat} {nd : Nd} {r : List Nd} {at_ : Int} {pile : List Way} {st : Nat} {vals log : List Ev} :
    run text (n + 1) (nd :: r) at_ pile st vals log = match nx text nd r at_ pile vals log with
    | .go ch a p v l => run text n ch a p (st + 1) v l
    | .back => popRun text n pile (st + 1) vals log
    | .bad => none := rfl

section
variable (w : World) (mean : ExcName → Option Value) (mg mb : Str → Option Value)
variable (y : Lay) (u : Nat → PO) (ri : PO) (text : Str)
/-- the store of the machine's state -/
noncomputable def ms (st : Nat) (vals log : List Ev) (rest : List PO) : List PO := stt y u st (valsPV vals) (logPV log) (ri :: rest)

theorem nil_holds {W : Wd} : ∀ c ∈ ([] : List Con), c.holds W := fun _ h => nomatch h
theorem cons_holds {W : Wd} {c : Con} {C : List Con} (h : c.holds W) (t : ∀ c ∈ C, c.holds W) : ∀ x ∈ c :: C, x.holds W := fun x hx => by
  rcases List.mem_cons.mp hx with rfl | hx
  · exact h
  · exact t x hx
theorem le_holds {W : Wd} {a b : Nat} (h : a ≤ b) : (Con.le a b).holds W := h

/-- one turn of the machine is one call of advanced -/
theorem nx_ok (ht : text.length ≤ 10000) {nd : Nd} {r : List Nd} {at_ : Int} {pile : List Way} {st : Nat} {vals log : List Ev} (hp : pile.length ≤ 10000) (hl : log.length ≤ 10000) :
    (∀ ch a p v l, nx text nd r at_ pile vals log = .go ch a p v l → COK (wd w mean mg mb) 20 341 [chPV y (nd :: r), .int at_, .tup [], .str text, y.pile, y.H] (ms y u ri st vals log [.list (pilePV y pile)]) (.tup [chPV y ch, .int a, .tup []]) (ms y u ri st v l [.list (pilePV y p)])) ∧
    (nx text nd r at_ pile vals log = .back → COK (wd w mean mg mb) 20 341 [chPV y (nd :: r), .int at_, .tup [], .str text, y.pile, y.H] (ms y u ri st vals log [.list (pilePV y pile)]) .none (ms y u ri st vals log [.list (pilePV y pile)])) := by
  have ok : TabOk (wd w mean mg mb) := wd_ok w mean mg mb
  have hp' : (pilePV y pile).length ≤ 10000 := by rw [len_pile]; exact hp
  have hl' : (logPV log).length ≤ 10000 := by rw [len_log]; exact hl
  have l3 : (Con.le 3 10000).holds (wd w mean mg mb) := le_holds (by decide)
  have l4 : (Con.le 4 10000).holds (wd w mean mg mb) := le_holds (by decide)
  have l5 : (Con.le 5 10000).holds (wd w mean mg mb) := le_holds (by decide)
  have l6 : (Con.le 6 10000).holds (wd w mean mg mb) := le_holds (by decide)
  have l7 : (Con.le 7 10000).holds (wd w mean mg mb) := le_holds (by decide)
  have lt : (Con.le text.length 10000).holds (wd w mean mg mb) := le_holds ht
  cases nd with
  | cat a b =>
    refine ⟨fun ch a' p v l h => ?_, fun h => by cases h⟩
    cases h
    exact COK.ev ok (adv_cat y u st (valsPV vals) (logPV log) (pilePV y pile) ri text at_ (chPV y r) _ _) nil_holds
  | now p f =>
    refine ⟨fun ch a' p v l h => ?_, fun h => by cases h⟩
    cases h
    exact COK.ev ok (adv_now y u st (valsPV vals) (logPV log) (pilePV y pile) ri text at_ (chPV y r) _ _) (cons_holds (le_holds (by decide)) nil_holds)
  | fail =>
    refine ⟨fun ch a' p v l h => (by cases h), fun h => ?_⟩
    exact COK.ev ok (adv_fail y u st (valsPV vals) (logPV log) (pilePV y pile) ri text at_ (chPV y r)) (cons_holds l4 nil_holds)
  | len1 =>
    unfold nx
    cases hd : decide (at_ + 1 ≤ (text.length : Int)) with
    | true =>
      refine ⟨fun ch a' p v l h => ?_, fun h => by cases h⟩
      cases h
      exact COK.ev ok (adv_lenY y u st (valsPV vals) (logPV log) (pilePV y pile) ri text at_ (chPV y r)) (cons_holds l3 (cons_holds lt (cons_holds (show cmpI .LtE _ _ = some true by unfold cmpI; dsimp only; rw [hd]) nil_holds)))
    | false =>
      refine ⟨fun ch a' p v l h => (by cases h), fun h => ?_⟩
      exact COK.ev ok (adv_lenN y u st (valsPV vals) (logPV log) (pilePV y pile) ri text at_ (chPV y r)) (cons_holds l3 (cons_holds lt (cons_holds (show cmpI .LtE _ _ = some false by unfold cmpI; dsimp only; rw [hd]) nil_holds)))
  | arb =>
    unfold nx
    cases hd : decide (at_ < (text.length : Int)) with
    | true =>
      refine ⟨fun ch a' p v l h => ?_, fun h => by cases h⟩
      cases h
      have e := adv_arbY y u st (valsPV vals) (logPV log) (pilePV y pile) ri text at_ (chPV y r)
      have ep : pilePV y pile ++ [.tup [.tup [.tup [.str "arb"], chPV y r], .int (at_ + 1), .tup []]] = pilePV y ((.arb :: r, at_ + 1) :: pile) := pile_cons y (.arb :: r, at_ + 1) pile
      rw [ep] at e
      exact COK.ev ok e (cons_holds l3 (cons_holds lt (cons_holds (show cmpI .Lt _ _ = some true by unfold cmpI; dsimp only; rw [hd]) (cons_holds (le_holds hp') nil_holds))))
    | false =>
      refine ⟨fun ch a' p v l h => ?_, fun h => by cases h⟩
      cases h
      exact COK.ev ok (adv_arbN y u st (valsPV vals) (logPV log) (pilePV y pile) ri text at_ (chPV y r)) (cons_holds l3 (cons_holds lt (cons_holds (show cmpI .Lt _ _ = some false by unfold cmpI; dsimp only; rw [hd]) nil_holds)))
  | delay f =>
    refine ⟨fun ch a' p v l h => ?_, fun h => by cases h⟩
    cases h
    have hv := val_of y u st (valsPV vals) (logPV log) (pilePV y pile) ri f.key
    rw [get_ev] at hv
    exact COK.ev ok (adv_delay y u st (valsPV vals) (logPV log) (pilePV y pile) ri text at_ (chPV y r) f.key (getEv f vals)) (cons_holds l5 (cons_holds (COK.ev ok hv nil_holds) nil_holds))
  | endn f b =>
    unfold nx
    cases hd : Nat.ble vals.length 500 with
    | false => exact ⟨fun ch a' p v l h => (by cases h), fun h => (by cases h)⟩
    | true =>
      refine ⟨fun ch a' p v l h => ?_, fun h => by cases h⟩
      cases h
      have e := adv_end y u st (valsPV vals) (logPV log) (pilePV y pile) ri text at_ (chPV y r) f b
      have hv : (Con.le (valsPV vals).length 500).holds (wd w mean mg mb) := le_holds (by rw [len_vals]; exact Nat.le_of_ble_eq_true hd)
      have e1 : putA f.key (.str (Txt.slice text (some b) (some at_))) (valsPV vals) = valsPV (putEv (f.ev (Txt.slice text (some b) (some at_))) vals) := by
        rw [← put_ev]; cases f <;> rfl
      have e2 : logPV log ++ [.tup [.str f.key, .str (Txt.slice text (some b) (some at_))]] = logPV (f.ev (Txt.slice text (some b) (some at_)) :: log) := by
        rw [← log_cons]; cases f <;> rfl
      rw [e1, e2] at e
      exact COK.ev ok e (cons_holds l7 (cons_holds lt (cons_holds hv (cons_holds (le_holds hl') nil_holds))))
  | cursor =>
    unfold nx
    cases hd : Nat.ble vals.length 500 with
    | false => exact ⟨fun ch a' p v l h => (by cases h), fun h => (by cases h)⟩
    | true =>
      refine ⟨fun ch a' p v l h => ?_, fun h => by cases h⟩
      cases h
      have e := adv_cursor y u st (valsPV vals) (logPV log) (pilePV y pile) ri text at_ (chPV y r)
      have hv : (Con.le (valsPV vals).length 500).holds (wd w mean mg mb) := le_holds (by rw [len_vals]; exact Nat.le_of_ble_eq_true hd)
      have e1 : putA "J" (.int at_) (valsPV vals) = valsPV (putEv (.j at_) vals) := by rw [← put_ev]; rfl
      have e2 : logPV log ++ [.tup [.str "J", .int at_]] = logPV (.j at_ :: log) := by rw [← log_cons]; rfl
      rw [e1, e2] at e
      exact COK.ev ok e (cons_holds l6 (cons_holds hv (cons_holds (le_holds hl') nil_holds)))
  | chars s =>
    have e0 : nx text (.chars s) r at_ pile vals log = match Nat.ble s.length 10000 with
      | true => match Txt.slice text (some at_) (some (at_ + s.length)) == s with
        | true => .go r (at_ + s.length) pile vals log
        | false => .back
      | false => .bad := rfl
    rw [e0]
    cases hs : Nat.ble s.length 10000 with
    | false => exact ⟨fun ch a' p v l h => (by cases h), fun h => (by cases h)⟩
    | true =>
      have ls : (Con.le s.length 10000).holds (wd w mean mg mb) := le_holds (Nat.le_of_ble_eq_true hs)
      dsimp only
      cases hd : Txt.slice text (some at_) (some (at_ + s.length)) == s with
      | true =>
        refine ⟨fun ch a' p v l h => ?_, fun h => by cases h⟩
        cases h
        have c := COK.ev ok (ce_Y text at_ s (ms y u ri st vals log [.list (pilePV y pile)])) (cons_holds ls (cons_holds lt (cons_holds (show (_ == _) = true from hd) nil_holds)))
        exact COK.ev ok (adv_charsY y u st (valsPV vals) (logPV log) (pilePV y pile) ri text at_ (chPV y r) s _) (cons_holds l5 (cons_holds c nil_holds))
      | false =>
        refine ⟨fun ch a' p v l h => (by cases h), fun h => ?_⟩
        have c := COK.ev ok (ce_N text at_ s (ms y u ri st vals log [.list (pilePV y pile)])) (cons_holds ls (cons_holds lt (cons_holds (show (_ == _) = false from hd) nil_holds)))
        exact COK.ev ok (adv_charsN y u st (valsPV vals) (logPV log) (pilePV y pile) ri text at_ (chPV y r) s) (cons_holds l5 (cons_holds c nil_holds))
end
end Mine
end D15
section D16
namespace Mine
open PM

section
variable (w : World) (mean : ExcName → Option Value) (mg mb : Str → Option Value)
variable (y : Lay) (u : Nat → PO) (ri : PO) (text : Str) (nd0 : PV) (begin_ : Int)

theorem go_lens {nd : Nd} {r : List Nd} {at_ : Int} {pile : List Way} {vals log : List Ev} {ch : List Nd} {a : Int} {p : List Way} {v l : List Ev} (h : nx text nd r at_ pile vals log = .go ch a p v l) :
    p.length ≤ pile.length + 1 ∧ l.length ≤ log.length + 1 := by
  unfold nx at h
  split at h
  · cases h; omega
  · cases h; omega
  · split at h <;> cases h; omega
  · split at h <;> cases h <;> simp
  · cases h; omega
  · split at h <;> cases h; simp
  · split at h
    · split at h <;> cases h; omega
    · cases h
  · split at h <;> cases h; simp
  · cases h

noncomputable abbrev inT : PySem.Expr := whT (oB 3)
noncomputable abbrev inB : List Stmt := whB (oB 3)

theorem inner (ht : text.length ≤ 10000) : ∀ (n : Nat) (nd : Nd) (r : List Nd) (at_ : Int) (pile : List Way) (st : Nat) (vals log : List Ev) (way : PV) (out : Nat × List Ev × List Ev),
    run text n (nd :: r) at_ pile st vals log = some out → st + n ≤ 99999 → log.length + n ≤ 10000 → pile.length + n ≤ 10000 →
    ∃ n' way' l' at' pile' st' vals' log', n' < n ∧ st' + n' ≤ 99999 ∧ log'.length + n' ≤ 10000 ∧ pile'.length + n' ≤ 10000 ∧ popRun text n' pile' st' vals' log' = some out ∧
      WOK (wd w mean mg mb) 20 csT inT inB (lo1 y nd0 text begin_ way (chPV y (nd :: r)) (.int at_)) (ms y u ri st vals log [.list (pilePV y pile)]) .next
        (lo1 y nd0 text begin_ way' (.tup l') at') (ms y u ri st' vals' log' [.list (pilePV y pile')])
  | 0, _, _, _, _, _, _, _, _, _, h, _, _, _ => by unfold run at h; cases h
  | n + 1, nd, r, at_, pile, st, vals, log, way, out, h, b1, b2, b3 => by
    have ok : TabOk (wd w mean mg mb) := wd_ok w mean mg mb
    rw [run_cons] at h
    obtain ⟨g1, g2⟩ := nx_ok w mean mg mb y u ri text ht (nd := nd) (r := r) (at_ := at_) (pile := pile) (st := st + 1) (vals := vals) (log := log) (by omega) (by omega)
    have hgt : (Con.cmp .Gt ((st : Int) + 1) 99999 false).holds (wd w mean mg mb) := by
      show cmpI .Gt _ _ = some false
      unfold cmpI; dsimp only
      congr 1
      exact decide_eq_false (by omega)
    have hT : TOK (wd w mean mg mb) 20 csT (lo1 y nd0 text begin_ way (chPV y (nd :: r)) (.int at_)) inT (ms y u ri st vals log [.list (pilePV y pile)]) true (ms y u ri st vals log [.list (pilePV y pile)]) :=
      TOK.ev (tr_inTest y text begin_ nd0 way (.int at_) [nd.pv y, chPV y r] _) nil_holds
    cases hn : nx text nd r at_ pile vals log with
    | bad => rw [hn] at h; cases h
    | back =>
      rw [hn] at h
      have c := g2 hn
      refine ⟨n, .none, [nd.pv y, chPV y r], .int at_, pile, st + 1, vals, log, Nat.lt_succ_self n, by omega, by omega, by omega, h, ?_⟩
      refine WOK.brk hT (SSOK.ev (tr_turnN y u st (valsPV vals) (logPV log) (pilePV y pile) ri text begin_ nd0 way (chPV y (nd :: r)) (.int at_) _) (cons_holds hgt (cons_holds c nil_holds)))
    | go ch a p v l =>
      rw [hn] at h
      have c := g1 _ _ _ _ _ hn
      have hb := SSOK.ev (W := (wd w mean mg mb)) (tr_turnY y u st (valsPV vals) (logPV log) (pilePV y pile) ri text begin_ nd0 way (chPV y (nd :: r)) (.int at_) (chPV y ch) (.int a) (ms y u ri (st + 1) v l [.list (pilePV y p)])) (cons_holds hgt (cons_holds c nil_holds))
      obtain ⟨q1, q2⟩ := go_lens text hn
      cases ch with
      | nil =>
        dsimp only at h
        cases n <;> (unfold run at h; cases h)
      | cons nd' r' =>
        obtain ⟨n', way', l', at', pile', st', vals', log', e1, e2, e3, e4, e5, e6⟩ := inner ht n nd' r' a p (st + 1) v l (.tup [chPV y (nd' :: r'), .int a, .tup []]) out h (by omega) (by omega) (by omega)
        exact ⟨n', way', l', at', pile', st', vals', log', Nat.lt_succ_of_lt e1, e2, e3, e4, e5, WOK.next hT hb e6⟩

/-- one round: a way is taken, and its walk ends -/
theorem round (ht : text.length ≤ 10000) {n : Nat} {ch : List Nd} {a : Int} {p : List Way} {st : Nat} {vals log : List Ev} {out : Nat × List Ev × List Ev} {ρ : Loc}
    (h : run text n ch a p st vals log = some out) (b1 : st + n ≤ 99999) (b2 : log.length + n ≤ 10000) (b3 : p.length + n ≤ 10000)
    (hρ : ρ = lo0 y nd0 text begin_ ∨ ∃ way l at_, ρ = lo1 y nd0 text begin_ way (.tup l) at_) :
    ∃ n' way' l' at' pile' st' vals' log', n' < n ∧ st' + n' ≤ 99999 ∧ log'.length + n' ≤ 10000 ∧ pile'.length + n' ≤ 10000 ∧ popRun text n' pile' st' vals' log' = some out ∧
      TOK (wd w mean mg mb) 20 csT ρ (whT (bd 334 1)) (ms y u ri st vals log [.list (pilePV y ((ch, a) :: p))]) true (ms y u ri st vals log [.list (pilePV y ((ch, a) :: p))]) ∧
      SSOK (wd w mean mg mb) 20 csT ρ (whB (bd 334 1)) (ms y u ri st vals log [.list (pilePV y ((ch, a) :: p))]) .next (lo1 y nd0 text begin_ way' (.tup l') at') (ms y u ri st' vals' log' [.list (pilePV y pile')]) := by
  cases n with
  | zero => unfold run at h; cases h
  | succ n =>
    cases ch with
    | nil => unfold run at h; cases h
    | cons nd r =>
      obtain ⟨n', way', l', at', pile', st', vals', log', e1, e2, e3, e4, e5, e6⟩ := inner w mean mg mb y u ri text nd0 begin_ ht (n + 1) nd r a p st vals log (.tup [chPV y (nd :: r), .int a, .tup []]) out h b1 b2 b3
      refine ⟨n', way', l', at', pile', st', vals', log', e1, e2, e3, e4, e5, ?_⟩
      have hlen : (pilePV y ((nd :: r, a) :: p)).length ≤ 10000 := by rw [len_pile]; simp only [List.length_cons]; omega
      have hpos : (Con.cmp .Gt ((pilePV y ((nd :: r, a) :: p)).length : Int) 0 true).holds (wd w mean mg mb) := by
        show cmpI .Gt _ _ = some true
        unfold cmpI; dsimp only
        congr 1
        refine decide_eq_true ?_
        rw [len_pile]; simp only [List.length_cons]; omega
      have hpop : (Con.pop (pilePV y ((nd :: r, a) :: p)) (.tup [chPV y (nd :: r), .int a, .tup []]) (pilePV y p)).holds (wd w mean mg mb) :=
        ⟨(pile_cons y (nd :: r, a) p).symm, hlen⟩
      have tail := SSOK.of_sok (SOK.ev (W := (wd w mean mg mb)) (k := 20) (tr_tail y text begin_ nd0 way' at' l' (ms y u ri st' vals' log' [.list (pilePV y pile')])) nil_holds)
      have mid := SSOK.cons (WOK.sok (pos := whP (oB 3)) e6) tail
      rw [tried_out]
      rcases hρ with rfl | ⟨way, l, at_, rfl⟩
      · refine ⟨TOK.ev (tr_test0Y y u st (valsPV vals) (logPV log) _ ri text begin_ nd0) (cons_holds (le_holds hlen) (cons_holds hpos nil_holds)), ?_⟩
        refine SSOK.cons (SOK.ev (tr_pop0 y u st (valsPV vals) (logPV log) _ ri text begin_ nd0 (chPV y (nd :: r)) (.int a) (pilePV y p)) (cons_holds hpop nil_holds)) ?_
        refine SSOK.cons (SOK.ev (tr_if0 y text begin_ nd0 [chPV y (nd :: r), .int a, .tup []] _) nil_holds) ?_
        exact SSOK.cons (SOK.ev (tr_unp0 y text begin_ nd0 (chPV y (nd :: r)) (.int a) _) nil_holds) mid
      · refine ⟨TOK.ev (tr_test1Y y u st (valsPV vals) (logPV log) _ ri text begin_ nd0 way (.tup l) at_) (cons_holds (le_holds hlen) (cons_holds hpos nil_holds)), ?_⟩
        refine SSOK.cons (SOK.ev (tr_pop1 y u st (valsPV vals) (logPV log) _ ri text begin_ nd0 way (.tup l) at_ (chPV y (nd :: r)) (.int a) (pilePV y p)) (cons_holds hpop nil_holds)) ?_
        refine SSOK.cons (SOK.ev (tr_if1 y text begin_ nd0 (.tup l) at_ [chPV y (nd :: r), .int a, .tup []] _) nil_holds) ?_
        exact SSOK.cons (SOK.ev (tr_unp1 y text begin_ nd0 (.tup l) at_ (chPV y (nd :: r)) (.int a) _) nil_holds) mid

theorem outer (ht : text.length ≤ 10000) : ∀ (n : Nat) (pile : List Way) (st : Nat) (vals log : List Ev) (way : PV) (l : List PV) (at_ : PV) (st2 : Nat) (vals2 log2 : List Ev),
    popRun text n pile st vals log = some (st2, vals2, log2) → st + n ≤ 99999 → log.length + n ≤ 10000 → pile.length + n ≤ 10000 →
    ∃ ρ', WOK (wd w mean mg mb) 20 csT (whT (bd 334 1)) (whB (bd 334 1)) (lo1 y nd0 text begin_ way (.tup l) at_) (ms y u ri st vals log [.list (pilePV y pile)]) .next ρ' (ms y u ri st2 vals2 log2 [.list []]) := by
  intro n
  induction n using Nat.strongRecOn with
  | ind n ih =>
    intro pile st vals log way l at_ st2 vals2 log2 h b1 b2 b3
    cases pile with
    | nil =>
      cases h
      refine ⟨_, WOK.stop (TOK.ev (tr_test1N y u st (valsPV vals) (logPV log) [] ri text begin_ nd0 way (.tup l) at_) (cons_holds (le_holds (by decide)) (cons_holds (show cmpI .Gt _ _ = some false from rfl) nil_holds)))⟩
    | cons q p =>
      obtain ⟨ch, a⟩ := q
      have h' : run text n ch a p st vals log = some (st2, vals2, log2) := h
      simp only [List.length_cons] at b3
      obtain ⟨n', way', l', at', pile', st', vals', log', e1, e2, e3, e4, e5, e6, e7⟩ := round w mean mg mb y u ri text nd0 begin_ ht h' b1 b2 (by omega) (.inr ⟨way, l, at_, rfl⟩)
      obtain ⟨ρ', hw⟩ := ih n' e1 pile' st' vals' log' way' l' at' st2 vals2 log2 e5 e2 e3 e4
      exact ⟨ρ', WOK.next e6 e7 hw⟩

/-- tried, when no way matches -/
theorem tried_ok (ht : text.length ≤ 10000) {n : Nat} {nd : Nd} {st : Nat} {vals log : List Ev} {st2 : Nat} {vals2 log2 : List Ev} (h : run text n [nd] begin_ [] st vals log = some (st2, vals2, log2)) (b1 : st + n ≤ 99999) (b2 : log.length + n ≤ 10000) (b3 : n ≤ 10000) :
    COK (wd w mean mg mb) 21 334 [nd.pv y, .str text, .int begin_, y.H] (ms y u ri st vals log []) .none (ms y u ri st2 vals2 log2 [.list []]) := by
  have ok : TabOk (wd w mean mg mb) := wd_ok w mean mg mb
  obtain ⟨n', way', l', at', pile', st', vals', log', e1, e2, e3, e4, e5, e6, e7⟩ := round w mean mg mb y u ri text (nd.pv y) begin_ ht h b1 b2 (by simpa using b3) (.inl rfl)
  obtain ⟨ρ', hw⟩ := outer w mean mg mb y u ri text (nd.pv y) begin_ ht n' pile' st' vals' log' way' l' at' st2 vals2 log2 e5 e2 e3 e4
  have hs : SSOK (wd w mean mg mb) 20 csT [("node", nd.pv y), ("subject", .str text), ("begin", .int begin_), ("host", y.H)] (fnAt 334).body (ms y u ri st vals log []) (.ret .none) ρ' (ms y u ri st2 vals2 log2 [.list []]) := by
    rw [tried_body]
    refine SSOK.cons (SOK.ev (tr_start y u st (valsPV vals) (logPV log) ri text begin_ (nd.pv y)) nil_holds) ?_
    refine SSOK.cons (WOK.sok (WOK.next e6 e7 hw)) ?_
    exact SSOK.ret (SOK.ev (tr_end ρ' _) nil_holds)
  exact COK.body ok (show tab.fn 334 = some (fnAt 334) by kernel_rfl) (show _ = (fnAt 334).params.length by kernel_rfl) (show SSOK (wd w mean mg mb) 20 csT ((fnAt 334).params.zip _) _ _ _ _ _ from (show (fnAt 334).params.zip [nd.pv y, .str text, .int begin_, y.H] = ([("node", nd.pv y), ("subject", .str text), ("begin", .int begin_), ("host", y.H)] : Loc) by kernel_rfl) ▸ hs) (.inl rfl)
end
end Mine
end D16
section D17
namespace Mine
open PM

theorem EOK.rev {W : Wd} {k : Nat} {cs : Scope} {ρ : Loc} {σ : List PO} {x : Str} {px cp up sp pos : Pos} {c : Nat} {i : Nat} {l : List PV} (hx : nameE W.Tb cs ρ x = some (.obj i)) (hl : σ[i]? = some (.list l)) (hb : l.length ≤ 1000) :
    EOK W k cs ρ (.Subscript (.Name x px) (.Slice none none (some (.UnaryOp .USub (.Constant (.int 1) c cp) up)) sp) pos) σ (.obj σ.length) (σ ++ [.list l.reverse]) := by
  intro A env h₀ L m D I s ec F S Q hR
  refine Subscript_ (ec.nm _ _ hx px s σ D I Ext.refl F S _ fun v V => ?_)
  refine wpAny_Slice (evalPart_none_step (evalPart_none_step ?_))
  show wpAny _ A (eval _ env) _ _ _
  refine UnaryOp_ (wpAny_Constant_int (neg_int ?_))
  obtain ⟨d, vs, n, os, rfl, ho, rr, hd, eo, N, up⟩ := list_at S V hl
  obtain ⟨os0, N0, Os, nd, ap⟩ := S
  refine krv_lit (s := { s with toks := _ }) (its := vs.toArray) (zs := vs.reverse) F N0 ⟨_, ho, rfl, _, rfl⟩ (IsPart.int _ _) rfl (fun D' h' F' N' lt => ?_) (by with_unfolding_all rfl) (by intro _; with_unfolding_all rfl) (by rw [List.size_toArray, rr.length]; exact le_line hb)
  have off := St.off (W := W) Os lt
  exact hR (.ref D') h' _ (D ++ [D']) I F' (St.more_of Os nd ap off.1 off.2 (.list (rr.reverse.mono Ext.snoc)) N') Ext.snoc (.obj (by rw [← Os.len.2]; exact get_snoc))

-- match_at and match_plain
noncomputable def csP : Scope := (fnAt 320).scope
noncomputable def caA : PySem.Expr → List PySem.Expr
  | .Call _ a _ _ => a
  | _ => []
noncomputable def caP : PySem.Expr → Pos
  | .Call _ _ _ p => p
  | .Name _ p => p
  | _ => default
noncomputable def caF : PySem.Expr → PySem.Expr
  | .Call f _ _ _ => f
  | e => e
noncomputable def eAt (l : List PySem.Expr) (i : Nat) : PySem.Expr := l.getD i (.Constant .none 0 default)
theorem plain_body : (fnAt 320).body = [.For (.Name "begin" (caP (foT (bd 320 0)))) (.Call (.Name "range" (caP (caF (foI (bd 320 0))))) [eAt (caA (foI (bd 320 0))) 0] [] (caP (foI (bd 320 0)))) (whB (bd 320 0)) [] (whP (bd 320 0)), bd 320 1] := by kernel_rfl
noncomputable def pm0 (y : Lay) (nd : PV) (text : Str) : Loc := [("node", nd), ("subject", .str text), ("is_anchored", .bool false), ("host", y.H)]
noncomputable def pm1 (y : Lay) (nd : PV) (text : Str) (b : Int) : Loc := [("node", nd), ("subject", .str text), ("is_anchored", .bool false), ("host", y.H), ("begin", .int b)]
noncomputable def pm2 (y : Lay) (nd : PV) (text : Str) (b : Int) : Loc := [("node", nd), ("subject", .str text), ("is_anchored", .bool false), ("host", y.H), ("begin", .int b), ("found", .none)]
section
variable (y : Lay) (text : Str) (b : Int) (nd : PV) (σ σ' : List PO)
theorem at_ok : pcall tab (Ocall 334 .none σ') 100 22 327 [nd, .str text, .int b, y.H] σ = some (.none, σ', [.call 21 334 [nd, .str text, .int b, y.H] σ .none σ']) := by kernel_rfl
theorem pl_body1 : pxs tab (Ocall 327 .none σ') 100 22 csP (pm1 y nd text b) (whB (bd 320 0)) σ = some ((.next, pm2 y nd text b), σ', [.call 22 327 [nd, .str text, .int b, y.H] σ .none σ']) := by kernel_rfl
theorem pl_body2 : pxs tab (Ocall 327 .none σ') 100 22 csP (pm2 y nd text b) (whB (bd 320 0)) σ = some ((.next, pm2 y nd text b), σ', [.call 22 327 [nd, .str text, .int b, y.H] σ .none σ']) := by kernel_rfl
theorem pl_arg : pes tab O1 100 22 csP (pm0 y nd text) [eAt (caA (foI (bd 320 0))) 0] σ = some ([.int (text.length + 1)], σ, [.le text.length 10000]) := by kernel_rfl
theorem pl_rng : nameE tab csP (pm0 y nd text) "range" = some (.glo (.type "range")) := by kernel_rfl
theorem pl_end (ρ : Loc) : px tab O1 100 22 csP ρ (bd 320 1) σ = some ((.ret .none, ρ), σ, []) := by kernel_rfl
end

noncomputable def runAll (text : Str) (fuel : Nat) (nd : Nd) : Nat → Int → Nat → List Ev → List Ev → Option (Nat × List Ev × List Ev)
  | 0, _, st, vals, log => some (st, vals, log)
  | k + 1, b, st, vals, log => match Nat.ble (st + fuel) 99999 && Nat.ble (log.length + fuel) 10000 with
    | true => match run text fuel [nd] b [] st vals log with
      | some (st', v', l') => runAll text fuel nd k (b + 1) st' v' l'
      | none => none
    | false => none

theorem lt_vals (n : Nat) : ∀ l : List Ev, ltA n (valsPV l) = true
  | [] => rfl
  | e :: l => by
    show (e.val.lt n && ltA n (valsPV l)) = true
    rw [lt_vals n l]; cases e <;> rfl
theorem lt_app (n : Nat) : ∀ a b : List PV, ltL n (a ++ b) = (ltL n a && ltL n b)
  | [], b => rfl
  | p :: a, b => by
    show (p.lt n && ltL n (a ++ b)) = ((p.lt n && ltL n a) && ltL n b)
    rw [lt_app n a b, Bool.and_assoc]
theorem lt_log (n : Nat) : ∀ l : List Ev, ltL n (logPV l) = true
  | [] => rfl
  | e :: l => by
    rw [← log_cons, lt_app, lt_log n l]; cases e <;> rfl
theorem lt_S (n : Nat) : ∀ {a : List PO}, (∀ p ∈ a, p.lt n = true) → ltS n a = true
  | [], _ => rfl
  | p :: a, h => by
    show (p.lt n && ltS n a) = true
    rw [h p (.head _), lt_S n fun q hq => h q (.tail _ hq)]; rfl
theorem lt_ms (y : Lay) (u : Nat → PO) (ri : PO) (st : Nat) (vals log : List Ev) (hu : ∀ i, (u i).lt (y.n + 10) = true) (hr : ri.lt (y.n + 10) = true) : ltS (y.n + 10) (ms y u ri st vals log []) = true := by
  refine lt_S _ fun p hp => ?_
  have hv : (PO.dict (valsPV vals)).lt (y.n + 10) = true := lt_vals _ _
  have hl : (PO.list (logPV log)).lt (y.n + 10) = true := lt_log _ _
  have hj : ∀ k : Str, (refO k).lt (y.n + 10) = true := fun k => rfl
  have ha : (PO.attrs [("values", .obj (y.n + 3)), ("limit", .int 99999), ("refused", .obj (y.n + 4)), ("width", .int 64), ("steps", .int st), ("log", .obj (y.n + 6))]).lt (y.n + 10) = true := by cases y <;> rfl
  unfold ms stt at hp
  rcases List.mem_append.mp hp with m | m
  · cases y <;> (simp only [Lay.pre, List.mem_cons, List.not_mem_nil, or_false] at m) <;> (rcases m with rfl | rfl | m) <;> (try exact hj _) <;> (repeat' (rcases m with rfl | m)) <;> (first | exact hu _ | exact hj _ | (subst m; exact hu _))
  · simp only [List.mem_cons, List.not_mem_nil, or_false] at m
    rcases m with rfl | rfl | rfl | rfl | rfl | rfl | rfl | rfl | rfl | rfl
    · exact hj _
    · exact hu _
    · exact hu _
    · exact hv
    · rfl
    · exact ha
    · exact hl
    · rfl
    · rfl
    · exact hr
theorem len_ms (y : Lay) (u : Nat → PO) (ri : PO) (st : Nat) (vals log : List Ev) (rest : List PO) : (ms y u ri st vals log rest).length = y.n + 10 + rest.length := by
  cases y <;> (unfold ms stt; simp [Lay.pre, Lay.n]; omega)

section
variable (w : World) (mean : ExcName → Option Value) (mg mb : Str → Option Value)
variable (y : Lay) (u : Nat → PO) (text : Str)
theorem tried_dropped (hu : ∀ i, (u i).lt (y.n + 10) = true) {ri : PO} (hr : ri.lt (y.n + 10) = true) (ht : text.length ≤ 10000) {b : Int} {n : Nat} {nd : Nd} {st : Nat} {vals log : List Ev} {st2 : Nat} {vals2 log2 : List Ev} (h : run text n [nd] b [] st vals log = some (st2, vals2, log2)) (b1 : st + n ≤ 99999) (b2 : log.length + n ≤ 10000) :
    COK (wd w mean mg mb) 21 334 [nd.pv y, .str text, .int b, y.H] (ms y u ri st vals log []) .none (ms y u ri st2 vals2 log2 []) := by
  have c := tried_ok w mean mg mb y u ri text b ht h b1 b2 (by omega)
  have e : ms y u ri st2 vals2 log2 [.list []] = ms y u ri st2 vals2 log2 [] ++ [.list []] := by
    unfold ms stt; simp
  rw [e] at c
  have hl : (ms y u ri st2 vals2 log2 []).length = y.n + 10 := len_ms ..
  refine c.drop ?_ ?_ ?_
  · rw [hl]; exact lt_ms y u ri st2 vals2 log2 hu hr
  · rfl
  · rw [hl, len_ms]; exact Nat.le_refl _

theorem set_ri (ri ri' : PO) (st : Nat) (vals log : List Ev) : (ms y u ri st vals log []).set (y.n + 9) ri' = ms y u ri' st vals log [] := by
  cases y <;> rfl
theorem get_ri (ri : PO) (st : Nat) (vals log : List Ev) : (ms y u ri st vals log [])[y.n + 9]? = some ri := by
  cases y <;> rfl

theorem plain_loop (hu : ∀ i, (u i).lt (y.n + 10) = true) (ht : text.length ≤ 10000) {fuel : Nat} {nd : Nd} {st2 : Nat} {vals2 log2 : List Ev} {py : Pos} : ∀ (k : Nat) (b : Int) (st : Nat) (vals log : List Ev) (ρ : Loc),
    runAll text fuel nd k b st vals log = some (st2, vals2, log2) → (ρ = pm0 y (nd.pv y) text ∨ ∃ b', ρ = pm2 y (nd.pv y) text b') →
    ∃ ρ', FOK (wd w mean mg mb) 22 csP (.Name "begin" py) (whB (bd 320 0)) (y.n + 9) ρ (ms y u (.riter b k) st vals log []) .next ρ' (ms y u .any st2 vals2 log2 [])
  | 0, b, st, vals, log, ρ, h, _ => by
    cases h
    have e := FOK.rangeStop (W := (wd w mean mg mb)) (k := 22) (cs := csP) (target := .Name "begin" py) (body := whB (bd 320 0)) (ρ := ρ) (get_ri y u (.riter b (0 : Nat)) st2 vals2 log2) (Int.le_refl 0)
    rw [set_ri] at e
    exact ⟨ρ, e⟩
  | k + 1, b, st, vals, log, ρ, h, hρ => by
    have ok : TabOk (wd w mean mg mb) := wd_ok w mean mg mb
    unfold runAll at h
    cases hb : (Nat.ble (st + fuel) 99999 && Nat.ble (log.length + fuel) 10000) with
    | false => rw [hb] at h; cases h
    | true =>
      rw [hb] at h
      obtain ⟨b1, b2⟩ := Bool.and_eq_true_iff.mp hb
      dsimp only at h
      cases hr : run text fuel [nd] b [] st vals log with
      | none => rw [hr] at h; cases h
      | some q =>
        obtain ⟨st', v', l'⟩ := q
        rw [hr] at h
        obtain ⟨ρ', ih⟩ := plain_loop hu ht k (b + 1) st' v' l' (pm2 y (nd.pv y) text b) h (.inr ⟨b, rfl⟩)
        refine ⟨ρ', ?_⟩
        have ek : (((k + 1 : Nat) : Int) - 1) = (k : Int) := by omega
        have c1 := tried_dropped w mean mg mb y u text hu (ri := .riter (b + 1) k) rfl ht hr (Nat.le_of_ble_eq_true b1) (Nat.le_of_ble_eq_true b2)
        have c2 : COK (wd w mean mg mb) 22 327 [nd.pv y, .str text, .int b, y.H] (ms y u (.riter (b + 1) k) st vals log []) .none (ms y u (.riter (b + 1) k) st' v' l' []) :=
          COK.ev ok (at_ok y text b (nd.pv y) _ _) (cons_holds c1 nil_holds)
        have hbody : ∃ ρ₁, GOK (wd w mean mg mb) 22 csP (.Name "begin" py) ρ (.int b) ρ₁ ∧ SSOK (wd w mean mg mb) 22 csP ρ₁ (whB (bd 320 0)) (ms y u (.riter (b + 1) k) st vals log []) .next (pm2 y (nd.pv y) text b) (ms y u (.riter (b + 1) k) st' v' l' []) := by
          rcases hρ with rfl | ⟨b', rfl⟩
          · exact ⟨pm1 y (nd.pv y) text b, GOK.name (by kernel_rfl), SSOK.ev (pl_body1 y text b (nd.pv y) _ _) (cons_holds c2 nil_holds)⟩
          · exact ⟨pm2 y (nd.pv y) text b, GOK.name (by kernel_rfl), SSOK.ev (pl_body2 y text b (nd.pv y) _ _) (cons_holds c2 nil_holds)⟩
        obtain ⟨ρ₁, g, sb⟩ := hbody
        refine FOK.rangeNext (get_ri y u _ st vals log) (by omega) g ?_ ih
        rw [set_ri, ek]
        exact sb

theorem plain_ok (hu : ∀ i, (u i).lt (y.n + 10) = true) (ht : text.length ≤ 10000) {fuel : Nat} {nd : Nd} {st2 : Nat} {vals2 log2 : List Ev} (h : runAll text fuel nd (text.length + 1) 0 0 [] [] = some (st2, vals2, log2)) :
    COK (wd w mean mg mb) 23 320 [nd.pv y, .str text, .bool false, y.H] (stt y u 0 [] [] []) .none (ms y u .any st2 vals2 log2 []) := by
  have ok : TabOk (wd w mean mg mb) := wd_ok w mean mg mb
  obtain ⟨ρ', hw⟩ := plain_loop w mean mg mb y u text hu ht (py := caP (foT (bd 320 0))) (text.length + 1) 0 0 [] [] (pm0 y (nd.pv y) text) h (.inl rfl)
  have hlen : (stt y u 0 [] [] []).length = y.n + 9 := by cases y <;> rfl
  have happ : stt y u 0 [] [] [] ++ [.riter 0 ((text.length : Int) + 1)] = ms y u (.riter 0 ((text.length + 1 : Nat) : Int)) 0 [] [] [] := by cases y <;> rfl
  have hs : SSOK (wd w mean mg mb) 22 csP (pm0 y (nd.pv y) text) (fnAt 320).body (stt y u 0 [] [] []) (.ret .none) ρ' (ms y u .any st2 vals2 log2 []) := by
    rw [plain_body]
    refine SSOK.cons (SOK.forRange (σ₁ := stt y u 0 [] [] []) (n := (text.length : Int) + 1) (pl_rng y text (nd.pv y)) (by kernel_rfl) (LOK.ev (pl_arg y text (nd.pv y) _) (cons_holds (le_holds ht) nil_holds)) (by omega) (by omega) (fun _ _ => rfl) ?_) (SSOK.ret (SOK.ev (pl_end _ ρ') nil_holds))
    rw [hlen, happ]
    exact hw
  exact COK.body ok (show tab.fn 320 = some (fnAt 320) by kernel_rfl) (show _ = (fnAt 320).params.length by kernel_rfl) (show SSOK (wd w mean mg mb) 22 csP ((fnAt 320).params.zip _) _ _ _ _ _ from (show (fnAt 320).params.zip [nd.pv y, .str text, .bool false, y.H] = pm0 y (nd.pv y) text by kernel_rfl) ▸ hs) (.inl rfl)
end
end Mine
end D17
section D18
namespace Mine
open PM

noncomputable def csL : Scope := (fnAt 418).scope
noncomputable def subV : PySem.Expr → PySem.Expr
  | .Subscript v _ _ => v
  | .Attribute v _ _ => v
  | e => e
noncomputable def subI : PySem.Expr → PySem.Expr
  | .Subscript _ i _ => i
  | .Slice _ _ (some e) _ => e
  | .UnaryOp _ e _ => e
  | e => e
noncomputable def conK : PySem.Expr → Nat
  | .Constant _ k _ => k
  | _ => 0
noncomputable def tupE : PySem.Expr → List PySem.Expr
  | .Tuple l _ _ => l
  | _ => []
noncomputable abbrev itL : PySem.Expr := foI (bd 418 1)
noncomputable abbrev itG : PySem.Expr := .Attribute (.Name "host" (subV (foI (bd 418 4))).pos) "log" (foI (bd 418 4)).pos
noncomputable abbrev tgG : PySem.Expr := .Tuple [.Name "name" (eAt (tupE (foT (bd 418 4))) 0).pos, .Name "value" (eAt (tupE (foT (bd 418 4))) 1).pos] 0 (foT (bd 418 4)).pos
theorem told_body : (fnAt 418).body = [bd 418 0,
    .For (.Name "part" (foT (bd 418 1)).pos) (.Subscript (.Name "parts" (subV itL).pos) (.Slice none none (some (.UnaryOp .USub (.Constant (.int 1) (conK (subI (subI (subI itL)))) (subI (subI (subI itL))).pos) (subI (subI itL)).pos)) (subI itL).pos) itL.pos) (whB (bd 418 1)) [] (whP (bd 418 1)),
    bd 418 2, bd 418 3, .For tgG itG (whB (bd 418 4)) [] (whP (bd 418 4)), bd 418 5] := by kernel_rfl

inductive HV where
  | h0 (c : Str) | h1 (c x : Str) | h2 (c x : Str) (j : Int)
noncomputable def HV.pv : HV → List (Str × PV)
  | .h0 c => [("C", .str c)]
  | .h1 c x => [("C", .str c), ("X", .str x)]
  | .h2 c x j => [("C", .str c), ("X", .str x), ("J", .int j)]
noncomputable abbrev Ent := Str × Str × Int
noncomputable def entPV (e : Ent) : PV := .tup [.str e.1, .str e.2.1, .int e.2.2]
noncomputable def entsPV (l : List Ent) : List PV := (l.map entPV).reverse
noncomputable def stf (y : Lay) (u : Nat → PO) (steps : Int) (vals : List (Str × PV)) (log found : List PV) (hv : List (Str × PV)) (rest : List PO) : List PO :=
  y.pre u ++ (refO "J" :: u 50 :: u 51 :: .dict vals :: .list [] ::
    .attrs [("values", .obj (y.n + 3)), ("limit", .int 99999), ("refused", .obj (y.n + 4)), ("width", .int 64), ("steps", .int steps), ("log", .obj (y.n + 6))] :: .list log :: .list found :: .dict hv :: rest)

noncomputable def q0 (y : Lay) (text : Str) (node : PV) : Loc := [("parts", .obj (y.n - 1)), ("subject", .str text), ("node", node)]
noncomputable def q1 (y : Lay) (text : Str) (node part : PV) : Loc := [("parts", .obj (y.n - 1)), ("subject", .str text), ("node", node), ("part", part)]
noncomputable def q2 (y : Lay) (text : Str) (node part : PV) : Loc := [("parts", .obj (y.n - 1)), ("subject", .str text), ("node", node), ("part", part), ("have", .obj (y.n + 8)), ("found", .obj (y.n + 7)), ("host", y.H)]
noncomputable def q3 (y : Lay) (text : Str) (node part a b : PV) : Loc := [("parts", .obj (y.n - 1)), ("subject", .str text), ("node", node), ("part", part), ("have", .obj (y.n + 8)), ("found", .obj (y.n + 7)), ("host", y.H), ("name", a), ("value", b)]

section
variable (y : Lay) (u : Nat → PO) (text : Str) (node part a b : PV) (σ σ' : List PO) (steps : Int) (vals : List (Str × PV)) (log found : List PV) (rest : List PO) (c x : Str) (j : Int)
set_option maxHeartbeats 0
theorem tl_0 : px tab O1 100 23 csL [("parts", .obj (y.n - 1)), ("subject", .str text)] (bd 418 0) (y.pre u) = some ((.next, q0 y text ((Nd.cat .cursor .fail).pv y)), y.pre u ++ [refO "J"], []) := by
  cases y <;> kernel_rfl
theorem tl_part : pxs tab O1 100 23 csL (q1 y text node part) (whB (bd 418 1)) σ = some ((.next, q1 y text (.tup [.str "cat", part, node]) part), σ, []) := by
  kernel_rfl
theorem tl_2 : px tab O1 100 23 csL (q1 y text node part) (bd 418 2) (y.pre u ++ [refO "J", u 50, u 51]) = some ((.next, q2 y text node part), stt y u 0 [] [] [], []) := by
  cases y <;> kernel_rfl
theorem tl_3 : px tab (Ocall 320 .none σ') 100 23 csL (q2 y text node part) (bd 418 3) σ = some ((.next, q2 y text node part), σ', [.call 23 320 [node, .str text, .bool false, y.H] σ .none σ']) := by
  kernel_rfl
theorem tl_it : pe tab O1 100 23 csL (q2 y text node part) itG (stf y u steps vals log found [("C", .str "")] rest) = some (.obj (y.n + 6), stf y u steps vals log found [("C", .str "")] rest, []) := by
  cases y <;> kernel_rfl
theorem tl_5 : px tab O1 100 23 csL (q3 y text node part a b) (bd 418 5) σ = some ((.ret (.obj (y.n + 7)), q3 y text node part a b), σ, []) := by
  kernel_rfl
theorem tl_5' : px tab O1 100 23 csL (q2 y text node part) (bd 418 5) σ = some ((.ret (.obj (y.n + 7)), q2 y text node part), σ, []) := by
  kernel_rfl
noncomputable def put (k : Str) (v : PV) (h : HV) : List (Str × PV) := putA k v h.pv
theorem tl_c (s : Str) (h : HV) : pxs tab O1 100 23 csL (q3 y text node part (.str "C") (.str s)) (whB (bd 418 4)) (stf y u steps vals log found h.pv rest) =
    some ((.next, q3 y text node part (.str "C") (.str s)), stf y u steps vals log found (putA "C" (.str s) h.pv) rest, [.le h.pv.length 500]) := by
  cases y <;> cases h <;> kernel_rfl
theorem tl_x (s : Str) (h : HV) : pxs tab O1 100 23 csL (q3 y text node part (.str "X") (.str s)) (whB (bd 418 4)) (stf y u steps vals log found h.pv rest) =
    some ((.next, q3 y text node part (.str "X") (.str s)), stf y u steps vals log found (putA "X" (.str s) h.pv) rest, [.le h.pv.length 500]) := by
  cases y <;> cases h <;> kernel_rfl
theorem tl_j1 (n : Int) : pxs tab O1 100 23 csL (q3 y text node part (.str "J") (.int n)) (whB (bd 418 4)) (stf y u steps vals log found (HV.h1 c x).pv rest) =
    some ((.next, q3 y text node part (.str "J") (.int n)), stf y u steps vals log (found ++ [entPV (c, x, n)]) (HV.h2 c x n).pv rest, [.le 2 500, .le found.length 10000]) := by
  cases y <;> kernel_rfl
theorem tl_j2 (n : Int) : pxs tab O1 100 23 csL (q3 y text node part (.str "J") (.int n)) (whB (bd 418 4)) (stf y u steps vals log found (HV.h2 c x j).pv rest) =
    some ((.next, q3 y text node part (.str "J") (.int n)), stf y u steps vals log (found ++ [entPV (c, x, n)]) (HV.h2 c x n).pv rest, [.le 3 500, .le found.length 10000]) := by
  cases y <;> kernel_rfl
end

/-- the log read into the found -/
noncomputable def tell : Ev → HV → List Ent → Option (HV × List Ent)
  | .c s, .h0 _, f => some (.h0 s, f)
  | .c s, .h1 _ x, f => some (.h1 s x, f)
  | .c s, .h2 _ x j, f => some (.h2 s x j, f)
  | .x s, .h0 c, f => some (.h1 c s, f)
  | .x s, .h1 c _, f => some (.h1 c s, f)
  | .x s, .h2 c _ j, f => some (.h2 c s j, f)
  | .j _, .h0 _, _ => none
  | .j n, .h1 c x, f => match Nat.ble f.length 10000 with | true => some (.h2 c x n, (c, x, n) :: f) | false => none
  | .j n, .h2 c x _, f => match Nat.ble f.length 10000 with | true => some (.h2 c x n, (c, x, n) :: f) | false => none
noncomputable def tellAll : List Ev → HV → List Ent → Option (HV × List Ent)
  | [], h, f => some (h, f)
  | e :: r, h, f => match tell e h f with
    | some (h', f') => tellAll r h' f'
    | none => none
theorem len_ents (l : List Ent) : (entsPV l).length = l.length := by simp [entsPV]
theorem ents_cons (e : Ent) (l : List Ent) : entsPV l ++ [entPV e] = entsPV (e :: l) := by simp [entsPV]

section
variable (w : World) (mean : ExcName → Option Value) (mg mb : Str → Option Value)
variable (y : Lay) (u : Nat → PO) (text : Str) (node part : PV) (st : Nat) (vals : List Ev)

theorem tell_ok {e : Ev} {h : HV} {f : List Ent} {h' : HV} {f' : List Ent} {log : List PV} {rest : List PO} (ht : tell e h f = some (h', f')) :
    SSOK (wd w mean mg mb) 23 csL (q3 y text node part (.str e.key) e.val) (whB (bd 418 4)) (stf y u st (valsPV vals) log (entsPV f) h.pv rest) .next (q3 y text node part (.str e.key) e.val) (stf y u st (valsPV vals) log (entsPV f') h'.pv rest) := by
  have l1 : (Con.le h.pv.length 500).holds (wd w mean mg mb) := le_holds (by cases h <;> exact Nat.le_of_ble_eq_true rfl)
  cases e with
  | c s =>
    have e := tl_c y u text node part st (valsPV vals) log (entsPV f) rest s h
    cases h <;> cases ht <;> exact SSOK.ev e (cons_holds l1 nil_holds)
  | x s =>
    have e := tl_x y u text node part st (valsPV vals) log (entsPV f) rest s h
    cases h <;> cases ht <;> exact SSOK.ev e (cons_holds l1 nil_holds)
  | j n =>
    cases h with
    | h0 c => cases ht
    | h1 c x =>
      unfold tell at ht
      dsimp only at ht
      cases hb : Nat.ble f.length 10000 with
      | false => rw [hb] at ht; cases ht
      | true =>
        rw [hb] at ht; cases ht
        have e := tl_j1 y u text node part st (valsPV vals) log (entsPV f) rest c x n
        rw [ents_cons] at e
        exact SSOK.ev e (cons_holds (le_holds (by decide)) (cons_holds (le_holds (by rw [len_ents]; exact Nat.le_of_ble_eq_true hb)) nil_holds))
    | h2 c x j =>
      unfold tell at ht
      dsimp only at ht
      cases hb : Nat.ble f.length 10000 with
      | false => rw [hb] at ht; cases ht
      | true =>
        rw [hb] at ht; cases ht
        have e := tl_j2 y u text node part st (valsPV vals) log (entsPV f) rest c x j n
        rw [ents_cons] at e
        exact SSOK.ev e (cons_holds (le_holds (by decide)) (cons_holds (le_holds (by rw [len_ents]; exact Nat.le_of_ble_eq_true hb)) nil_holds))

theorem get_log (log found : List PV) (hv : List (Str × PV)) (rest : List PO) : (stf y u st (valsPV vals) log found hv rest)[y.n + 6]? = some (.list log) := by
  cases y <;> rfl
theorem get_it (log found : List PV) (hv : List (Str × PV)) (p q : PO) : (stf y u st (valsPV vals) log found hv [p, q])[y.n + 10]? = some q := by
  cases y <;> rfl
theorem set_it (log found : List PV) (hv : List (Str × PV)) (p q q' : PO) : (stf y u st (valsPV vals) log found hv [p, q]).set (y.n + 10) q' = stf y u st (valsPV vals) log found hv [p, q'] := by
  cases y <;> rfl
theorem tell_loop {h2 : HV} {f2 : List Ent} : ∀ (todo don : List Ev) (h : HV) (f : List Ent) (ρ : Loc), tellAll todo h f = some (h2, f2) → (ρ = q2 y text node part ∨ ∃ a b, ρ = q3 y text node part a b) →
    ∃ ρ', (ρ' = q2 y text node part ∨ ∃ a b, ρ' = q3 y text node part a b) ∧ FOK (wd w mean mg mb) 23 csL tgG (whB (bd 418 4)) (y.n + 10) ρ (stf y u st (valsPV vals) ((don ++ todo).map evPV) (entsPV f) h.pv [.any, .liter (y.n + 6) don.length]) .next ρ'
      (stf y u st (valsPV vals) ((don ++ todo).map evPV) (entsPV f2) h2.pv [.any, .any])
  | [], don, h, f, ρ, ht, hρ => by
    cases ht
    refine ⟨ρ, hρ, ?_⟩
    have e := FOK.listStop (W := (wd w mean mg mb)) (k := 23) (cs := csL) (target := tgG) (body := whB (bd 418 4)) (ρ := ρ) (get_it y u st vals ((don ++ []).map evPV) (entsPV f2) h2.pv .any (.liter (y.n + 6) don.length)) (get_log y u st vals _ _ _ _) (by simp)
    rw [set_it] at e
    exact e
  | e :: todo, don, h, f, ρ, ht, hρ => by
    unfold tellAll at ht
    cases h1 : tell e h f with
    | none => rw [h1] at ht; cases ht
    | some q =>
      obtain ⟨h', f'⟩ := q
      rw [h1] at ht
      obtain ⟨ρ', r', ih⟩ := tell_loop todo (don ++ [e]) h' f' (q3 y text node part (.str e.key) e.val) ht (.inr ⟨_, _, rfl⟩)
      refine ⟨ρ', r', ?_⟩
      have el : don ++ [e] ++ todo = don ++ e :: todo := by simp
      rw [el, List.length_append, List.length_singleton] at ih
      refine FOK.listNext (get_it y u st vals _ _ _ _ _) (get_log y u st vals _ _ _ _) (pv := evPV e) (by simp) rfl (ρ₁ := q3 y text node part (.str e.key) e.val) ?_ ?_ ih
      · have g : ∀ ρ₀, (ρ₀ = q2 y text node part ∨ ∃ a b, ρ₀ = q3 y text node part a b) → setAll ["name", "value"] [.str e.key, e.val] ρ₀ = q3 y text node part (.str e.key) e.val := by
          rintro _ (rfl | ⟨a, b, rfl⟩) <;> kernel_rfl
        rw [← g ρ hρ]
        exact GOK.tuple (by kernel_rfl) (by kernel_rfl)
      · rw [set_it]
        exact tell_ok w mean mg mb y u text node part st vals h1

noncomputable def patOf (parts : List Nd) : Nd := parts.foldr (fun p nd => .cat p nd) (.cat .cursor .fail)
theorem part_loop {ri : PO} : ∀ (todo don : List Nd) (nd : Nd) (ρ : Loc), (ρ = q0 y text (nd.pv y) ∧ todo ≠ [] ∨ ∃ p, ρ = q1 y text (nd.pv y) p) →
    ∃ p', FOK (wd w mean mg mb) 23 csL (.Name "part" (foT (bd 418 1)).pos) (whB (bd 418 1)) (y.n + 2) ρ (y.pre u ++ [refO "J", .list ((don ++ todo).map (Nd.pv y)), .liter (y.n + 1) don.length]) .next (q1 y text ((todo.foldl (fun nd p => Nd.cat p nd) nd).pv y) p')
      (y.pre u ++ [refO "J", .list ((don ++ todo).map (Nd.pv y)), .any])
  | [], don, nd, ρ, hρ => by
    have g1 : ∀ l q, (y.pre u ++ [refO "J", l, q])[y.n + 2]? = some q := fun l q => by cases y <;> rfl
    have g2 : ∀ l q, (y.pre u ++ [refO "J", l, q])[y.n + 1]? = some l := fun l q => by cases y <;> rfl
    have g3 : ∀ l q q', (y.pre u ++ [refO "J", l, q]).set (y.n + 2) q' = y.pre u ++ [refO "J", l, q'] := fun l q q' => by cases y <;> rfl
    rcases hρ with ⟨_, h⟩ | ⟨p, rfl⟩
    · exact absurd rfl h
    · refine ⟨p, ?_⟩
      have e := FOK.listStop (W := (wd w mean mg mb)) (k := 23) (cs := csL) (target := .Name "part" (foT (bd 418 1)).pos) (body := whB (bd 418 1)) (ρ := q1 y text (nd.pv y) p) (g1 (.list ((don ++ []).map (Nd.pv y))) (.liter (y.n + 1) don.length)) (g2 _ _) (by simp)
      rw [g3] at e
      exact e
  | q :: todo, don, nd, ρ, hρ => by
    have g1 : ∀ l q, (y.pre u ++ [refO "J", l, q])[y.n + 2]? = some q := fun l q => by cases y <;> rfl
    have g2 : ∀ l q, (y.pre u ++ [refO "J", l, q])[y.n + 1]? = some l := fun l q => by cases y <;> rfl
    have g3 : ∀ l q q', (y.pre u ++ [refO "J", l, q]).set (y.n + 2) q' = y.pre u ++ [refO "J", l, q'] := fun l q q' => by cases y <;> rfl
    obtain ⟨p', ih⟩ := part_loop (ri := ri) todo (don ++ [q]) (.cat q nd) (q1 y text ((Nd.cat q nd).pv y) (q.pv y)) (.inr ⟨_, rfl⟩)
    refine ⟨p', ?_⟩
    have el : don ++ [q] ++ todo = don ++ q :: todo := by simp
    rw [el, List.length_append, List.length_singleton] at ih
    refine FOK.listNext (g1 _ _) (g2 _ _) (pv := q.pv y) (by simp) rfl (ρ₁ := q1 y text (nd.pv y) (q.pv y)) ?_ ?_ ih
    · rcases hρ with ⟨rfl, _⟩ | ⟨p, rfl⟩
      · exact GOK.name (by kernel_rfl)
      · exact GOK.name (by kernel_rfl)
    · rw [g3]
      exact SSOK.ev (tl_part y text (nd.pv y) (q.pv y) _) nil_holds

theorem told_ok (parts : List Nd) (hne : parts ≠ []) (hlen : parts.length ≤ 1000) (hp : u (y.n - 1) = .list (parts.map (Nd.pv y))) (h50 : u 50 = .list ((parts.map (Nd.pv y)).reverse)) (h51 : u 51 = .any)
    (hu : ∀ i, (u i).lt (y.n + 10) = true) (ht : text.length ≤ 10000) {fuel st2 : Nat} {vals2 log2 : List Ev} {h2 : HV} {f2 : List Ent}
    (hr : runAll text fuel (patOf parts) (text.length + 1) 0 0 [] [] = some (st2, vals2, log2)) (hf : tellAll log2.reverse (.h0 "") [] = some (h2, f2)) :
    COK (wd w mean mg mb) 24 418 [.obj (y.n - 1), .str text] (y.pre u) (.obj (y.n + 7)) (stf y u st2 (valsPV vals2) (logPV log2) (entsPV f2) h2.pv [.any, .any]) := by
  have ok : TabOk (wd w mean mg mb) := wd_ok w mean mg mb
  have gp : (y.pre u ++ [refO "J"])[y.n - 1]? = some (u (y.n - 1)) := by cases y <;> rfl
  have gl : (y.pre u ++ [refO "J"]).length = y.n + 1 := by cases y <;> rfl
  obtain ⟨p', hw⟩ := part_loop w mean mg mb y u text (ri := .any) parts.reverse [] (.cat .cursor .fail) (q0 y text ((Nd.cat .cursor .fail).pv y)) (.inl ⟨rfl, by simpa using hne⟩)
  have epat : parts.reverse.foldl (fun nd p => Nd.cat p nd) (.cat .cursor .fail) = patOf parts := by
    unfold patOf; rw [List.foldl_reverse]
  rw [epat] at hw
  have erev : ([] ++ parts.reverse).map (Nd.pv y) = (parts.map (Nd.pv y)).reverse := by simp
  rw [erev] at hw
  have hpl := plain_ok w mean mg mb y u text hu ht hr
  obtain ⟨ρ', hρ', hg⟩ := tell_loop w mean mg mb y u text ((patOf parts).pv y) p' st2 vals2 log2.reverse [] (.h0 "") [] (q2 y text ((patOf parts).pv y) p') hf (.inl rfl)
  have elog : ([] ++ log2.reverse).map evPV = logPV log2 := by unfold logPV; simp
  rw [elog] at hg
  have e1 : ms y u .any st2 vals2 log2 [] = stf y u st2 (valsPV vals2) (logPV log2) (entsPV []) (HV.h0 "").pv [.any] := rfl
  have e2 : stf y u st2 (valsPV vals2) (logPV log2) (entsPV []) (HV.h0 "").pv [.any] ++ [.liter (y.n + 6) 0] = stf y u st2 (valsPV vals2) (logPV log2) (entsPV []) (HV.h0 "").pv [.any, .liter (y.n + 6) 0] := by
    unfold stf; simp
  have e3 : (stf y u st2 (valsPV vals2) (logPV log2) (entsPV []) (HV.h0 "").pv [.any]).length = y.n + 10 := by cases y <;> rfl
  have hend : SOK (wd w mean mg mb) 23 csL ρ' (bd 418 5) (stf y u st2 (valsPV vals2) (logPV log2) (entsPV f2) h2.pv [.any, .any]) (.ret (.obj (y.n + 7))) ρ' (stf y u st2 (valsPV vals2) (logPV log2) (entsPV f2) h2.pv [.any, .any]) := by
    rcases hρ' with rfl | ⟨a, b, rfl⟩
    · exact SOK.ev (tl_5' y text _ _ _) nil_holds
    · exact SOK.ev (tl_5 y text _ _ _ _ _) nil_holds
  have hs : SSOK (wd w mean mg mb) 23 csL [("parts", .obj (y.n - 1)), ("subject", .str text)] (fnAt 418).body (y.pre u) (.ret (.obj (y.n + 7))) ρ' (stf y u st2 (valsPV vals2) (logPV log2) (entsPV f2) h2.pv [.any, .any]) := by
    rw [told_body]
    refine SSOK.cons (SOK.ev (tl_0 y u text) nil_holds) ?_
    refine SSOK.cons (SOK.forList (σ₁ := y.pre u ++ [refO "J"] ++ [.list (parts.map (Nd.pv y)).reverse]) (i := y.n + 1) (l := (parts.map (Nd.pv y)).reverse) ?_ ?_ (fun _ _ => rfl) ?_) ?_ (ρ₁ := q1 y text ((patOf parts).pv y) p') (σ₁ := y.pre u ++ [refO "J", .list (parts.map (Nd.pv y)).reverse, .any])
    · have e := EOK.rev (W := (wd w mean mg mb)) (k := 23) (cs := csL) (ρ := q0 y text ((Nd.cat .cursor .fail).pv y)) (σ := y.pre u ++ [refO "J"]) (x := "parts") (px := (subV itL).pos) (cp := (subI (subI (subI itL))).pos) (up := (subI (subI itL)).pos) (sp := (subI itL).pos) (pos := itL.pos) (c := conK (subI (subI (subI itL)))) (i := y.n - 1) (l := parts.map (Nd.pv y)) (by kernel_rfl) (by rw [gp, hp]) (by simpa using hlen)
      rw [gl] at e
      exact e
    · rw [List.append_assoc]; cases y <;> rfl
    · have : (y.pre u ++ [refO "J"] ++ [PO.list (parts.map (Nd.pv y)).reverse]).length = y.n + 2 := by cases y <;> rfl
      rw [this]
      have e : y.pre u ++ [refO "J"] ++ [PO.list (parts.map (Nd.pv y)).reverse] ++ [PO.liter (y.n + 1) 0] = y.pre u ++ [refO "J", .list (parts.map (Nd.pv y)).reverse, .liter (y.n + 1) 0] := by simp
      rw [e]
      exact hw
    · rw [← h50, show (y.pre u ++ [refO "J", u 50, PO.any]) = y.pre u ++ [refO "J", u 50, u 51] by rw [h51]]
      refine SSOK.cons (SOK.ev (tl_2 y u text _ _) nil_holds) ?_
      refine SSOK.cons (SOK.ev (tl_3 y text _ _ _ (ms y u .any st2 vals2 log2 [])) (cons_holds hpl nil_holds)) ?_
      rw [e1]
      refine SSOK.cons (SOK.forList (EOK.ev (tl_it y u text _ _ st2 (valsPV vals2) (logPV log2) (entsPV []) [.any]) nil_holds) (get_log y u st2 vals2 _ _ _ _) (fun _ _ => rfl) ?_) (SSOK.ret hend)
      show FOK (wd w mean mg mb) 23 csL tgG _ (stf y u st2 (valsPV vals2) (logPV log2) (entsPV []) (HV.h0 "").pv [.any]).length _ (stf y u st2 (valsPV vals2) (logPV log2) (entsPV []) (HV.h0 "").pv [.any] ++ [.liter (y.n + 6) 0]) _ _ _
      rw [e3, e2]
      exact hg
  exact COK.body ok (show tab.fn 418 = some (fnAt 418) by kernel_rfl) (show _ = (fnAt 418).params.length by kernel_rfl) (show SSOK (wd w mean mg mb) 23 csL ((fnAt 418).params.zip _) _ _ _ _ _ from (show (fnAt 418).params.zip [PV.obj (y.n - 1), PV.str text] = ([("parts", .obj (y.n - 1)), ("subject", .str text)] : Loc) by kernel_rfl) ▸ hs) (.inl rfl)
end
end Mine
end D18
section D19
namespace Mine
open PM

noncomputable def pat5 : List Nd := [.now .len1 .c, .now .arb .x, .delay .c, .delay .x, .delay .c]
noncomputable def pat2 : List Nd := [.now (.cat .len1 .arb) .x, .delay .x]
/-- what _law_told hands back -/
noncomputable def toldOf (parts : List Nd) (text : Str) : Option (List Ent) := match runAll text 1000 (patOf parts) (text.length + 1) 0 0 [] [] with
  | some (_, _, log) => match tellAll log.reverse (.h0 "") [] with
    | some (_, f) => some f.reverse
    | none => none
  | none => none
noncomputable def wordOf (n m : Nat) : Str := ⟨((List.range n).map fun i => if m / 2 ^ i % 2 = 0 then 97 else 98).toArray⟩
noncomputable def imageOf (w : Str) : Str := ⟨(w.cps.toList.flatMap fun c => if c = 97 then [97, 98] else [98, 97]).toArray⟩
end Mine
end D19
section D20
namespace Mine
open PM

/-- a comprehension's own frame -/
structure CE (W : Wd) (A : Around) (env : Env) (g : Heap) (cs cs' : Scope) (cl' : List (Str × Addr)) : Prop where
  ok : TabOk W
  gd : Gd W g
  hh : A.handled = none
  un : A.units + 10 < cLine
  sc : cs' = relabel cs env
  gl : env.globals = mainGlobals
  bl : env.builtins = builtinsNs
  kd : cs'.kind = .function

section
variable {W : Wd} {A : Around} {env : Env} {g : Heap} {cs cs' : Scope} {cl' : List (Str × Addr)}
theorem CE.ec {C : Addr} {D : List Addr} {I : Led} {m : Str → Option Value} {ρ : Loc} (x : CE W A env g cs cs' cl') (lr : LR W cs' cl' I D m ρ) :
    EC W 0 A (compEnvC cs cl' C env) g C m D I cs' ρ := by
  refine ⟨x.ok, x.gd, x.hh, by have := x.un; omega, ?_, .inl rfl⟩
  obtain rfl := x.sc
  intro n pv h pos s σ D' I' y F S Q hQ
  unfold nameE at h
  split at h
  · cases h
  · rename_i hd
    have TR := topRead_of x.gd.T
    split at h
    · rename_i kn
      have z := lr.later y n pv h
      rw [kn] at z
      obtain ⟨v, e, V⟩ := z
      exact wpAny_Name (wpAny_loadName_local (env := compEnvC cs cl' C env) x.kd kn F.ns e (hQ v V)) hd
    · rename_i kn
      have z := lr.later y n pv h
      rw [kn] at z
      obtain ⟨c, o, v, e, hm, hv, V⟩ := z
      exact wpAny_Name (wpAny_loadName_cell (env := compEnvC cs cl' C env) x.kd kn e ⟨o, S.newsI.get hm, hv⟩ (hQ v V)) hd
    · rename_i kn
      split at h
      · cases h
      · rename_i hc
        have z := lr.later y n pv h
        rw [kn] at z
        obtain ⟨c, o, v, e, hm, hv, V⟩ := z
        exact wpAny_Name (wpAny_loadName_free (env := compEnvC cs cl' C env) x.kd kn e ⟨o, S.newsI.get hm, hv⟩ (hQ v V) hc) hd
    · rename_i kn
      rcases x.ok.glob n pv h with ⟨v, e, V⟩ | ⟨v, e, hb, hn, rfl⟩
      · exact Name_function_global (env := compEnvC cs cl' C env) x.kd kn (loadGlobal_global (env := compEnvC cs cl' C env) (by show s.heap.Ns env.globals W.mg; rw [x.gl]; exact TR.g.keeps F.keep) (mg_of x.gd.X TR.g e) (hQ v (V _ _))) hd
      · exact Name_function_global (env := compEnvC cs cl' C env) x.kd kn (loadGlobal_builtin (env := compEnvC cs cl' C env) (by show s.heap.Ns env.globals W.mg; rw [x.gl]; exact TR.g.keeps F.keep) (mg_none_of x.gd.X TR.g e) (by show s.heap.Ns env.builtins W.mb; rw [x.bl]; exact TR.b.keeps F.keep) ((TR.builtins n hn).trans hb) (hQ v (.glo v))) hd
    · cases h
theorem St.sameL {h₀ h h' : Heap} {L : Addr} {σ : List PO} {D : List Addr} {I : Led} (S : W.S h₀ L h σ D I) (x : Heap.SameBut L h h') : W.S h₀ L h' σ D I := by
  obtain ⟨os, N, r⟩ := S
  exact ⟨os, N.set x, r⟩
theorem storeC_ok {C : Addr} {D : List Addr} {I : Led} {σ : List PO} {ρ : Loc} (x : CE W A env g cs cs' cl') {m : Str → Option Value} {s : Shared} {n : Str} {v : Value} {pv : PV} {Q : Unit → Shared → Prop} {E : Value → Shared → Prop} (hn : cs'.names.lookup n = some .local) (F : Fr g C s.heap m) (S : W.S g C s.heap σ D I) (lr : LR W cs' cl' I D m ρ) (V : W.V I D v pv)
    (h : ∀ h' m', Fr g C h' m' → W.S g C h' σ D I → LR W cs' cl' I D m' (setL n pv ρ) → Q () { s with heap := h', toks := s.toks + 1 }) : wpAny W.M A (storeName (compEnvC cs cl' C env) n v) Q E s := by
  obtain rfl := x.sc
  refine wpAny_storeName_local (env := compEnvC cs cl' C env) hn F.ns (fun h' hn' hs => h h' _ (F.set hn' hs) (St.sameL S hs) (lr.set V hn)) ?_
  show ((relabel cs env).kind == .class || ((relabel cs env).kind == .module && C != env.globals)) = false
  rw [x.kd]; rfl
theorem storeAllC_ok {C : Addr} {D : List Addr} {I : Led} {σ : List PO} (x : CE W A env g cs cs' cl') {Q : Unit → Shared → Prop} {E : Value → Shared → Prop} : ∀ {xs : List Str} {vals : List Value} {vs : List PV} {m : Str → Option Value} {s : Shared} {ρ : Loc}, VRs W.K I D vals vs → (∀ n ∈ xs, cs'.names.lookup n = some .local) →
    Fr g C s.heap m → W.S g C s.heap σ D I → LR W cs' cl' I D m ρ →
    (∀ h' m' tk', Fr g C h' m' → W.S g C h' σ D I → LR W cs' cl' I D m' (setAll xs vs ρ) → Q () { s with heap := h', toks := tk' }) → StoreAll W.M A (compEnvC cs cl' C env) Q E xs vals s
  | [], _, _, m, s, ρ, V, _, F, S, lr, h => by unfold StoreAll; exact h s.heap m s.toks F S (by unfold setAll; exact lr)
  | _ :: _, _, _, m, s, ρ, .nil, _, F, S, lr, h => by unfold StoreAll; exact h s.heap m s.toks F S (by unfold setAll; exact lr)
  | n :: xs, _, _, m, s, ρ, .cons (v := v) (p := p) (vs := vals) (ps := vs) V r, hl, F, S, lr, h => by
    show wpAny W.M A (storeName (compEnvC cs cl' C env) n v) (fun _ s' => StoreAll W.M A (compEnvC cs cl' C env) Q E xs vals s') E s
    refine storeC_ok x (hl n (.head _)) F S lr V fun h' m' F' S' lr' => ?_
    exact storeAllC_ok x r (fun y hy => hl y (.tail _ hy)) F' S' lr' fun h'' m'' tk'' F'' S'' lr'' => h h'' m'' tk'' F'' S'' lr''
end

section
variable (W : Wd) (cs' : Scope)
noncomputable def GCOK (target : PySem.Expr) (ρ : Loc) (pv : PV) (ρ' : Loc) : Prop := ∀ (A : Around) (env : Env) (g : Heap) (C : Addr) (cs : Scope) (cl' : List (Str × Addr)) (m : Str → Option Value) (D : List Addr) (I : Led) (s : Shared) (σ : List PO) (v : Value),
  CE W A env g cs cs' cl' → Fr g C s.heap m → W.S g C s.heap σ D I → LR W cs' cl' I D m ρ → W.V I D v pv → ∀ Q : Unit → Shared → Prop,
    (∀ h' tk' m', Fr g C h' m' → W.S g C h' σ D I → LR W cs' cl' I D m' ρ' → Q () { s with heap := h', toks := tk' }) → wpAny W.M A (assign target (compEnvC cs cl' C env) v) Q ff s
end
theorem GCOK.name {W : Wd} {cs' : Scope} {ρ : Loc} {x : Str} {p : Pos} {pv : PV} (hx : isLocal cs' x = true) : GCOK W cs' (.Name x p) ρ pv (setL x pv ρ) := by
  intro A env g C cs cl' m D I s σ v ce F S lr V Q hQ
  exact assign_Name (storeC_ok ce (isLocal_ok hx) F S lr V fun h' m' F' S' lr' => hQ h' _ m' F' S' lr')
theorem GCOK.tuple {W : Wd} {cs' : Scope} {ρ : Loc} {ts : List PySem.Expr} {kk} {p : Pos} {l : List PV} {xs : List Str} (hn : namesOf cs' ts = some xs) (hl : xs.length = l.length) : GCOK W cs' (.Tuple ts kk p) ρ (.tup l) (setAll xs l ρ) := by
  intro A env g C cs cl' m D I s σ v ce F S lr V Q hQ
  obtain ⟨a, rfl⟩ : ∃ a, v = .ref a := by cases V <;> exact ⟨_, rfl⟩
  obtain ⟨vs, ht, hv, _⟩ := isTup_of (ce.gd.X.keeps F.keep) S V
  have nm := storeAll_names (M := W.M) (A := A) (env := compEnvC cs cl' C env) (Q := Q) (E := ff) hn
  refine assign_Tuple_tuple ce.hh ht (by rw [nm.1, hl, List.size_toArray, hv.length]) nm.2.1 fun h' x => ?_
  exact nm.2.2.2 (storeAllC_ok ce hv nm.2.2.1 (Fr.extBut F x (Nat.le_refl _)) (St.ext S x) lr fun h'' m'' tk'' F'' S'' lr'' => hQ h'' tk'' m'' F'' S'' lr'')

section
variable {prog : Program} {w : World} {A : Around} {s : Shared}
noncomputable def CRest (prog : Program) (w : World) (A : Around) (cenv : Env) (elt target iter : PySem.Expr) (scope : Scope) (pos : Pos) (it acc : Value) (R : Shared → Prop) (s : Shared) : Prop :=
  codeAny (model prog w) A (.compLoop (.ListComp elt [⟨target, iter, [], 0⟩] scope pos) 0 it acc cenv) (fun r s' => match r with | .ok _ => R s' | .error _ => False) s
theorem comp_turn {cenv : Env} {elt target iter : PySem.Expr} {scope : Scope} {pos : Pos} {it acc : Value} {R : Shared → Prop}
    (h : wpAny (model prog w) A (pyNext it) (fun r s₁ => match r with
      | none => R s₁
      | some v => wpAny (model prog w) A (letOwnedTupleGo target it v) (fun _ s₀ => wpAny (model prog w) A (assign target cenv v) (fun _ s₂ => wpAny (model prog w) A (eval elt cenv) (fun x s₃ =>
          wpAny (model prog w) A (call (.builtin "list.append") [acc, x]) (fun _ s₄ => CRest prog w A cenv elt target iter scope pos it acc R s₄) ff s₃) ff s₂) ff s₀) ff s₁) ff s) :
    CRest prog w A cenv elt target iter scope pos it acc R s := by
  have hE : ∀ (x : Value) (s' : Shared), ff x s' → notedBy (model prog w) A cenv (fun _ _ => False) x s' := fun _ _ h => h.elim
  refine codeAny_of_tree ?_
  show wpAny _ _ ((compTurn (.ListComp elt [⟨target, iter, [], 0⟩] scope pos) 0 it acc cenv).onRaise (fun x => do noteFrame x cenv; theTreesLotGoes x)) _ _ s
  refine wpAny_noted ?_
  rw [compTurn_list1]
  refine wpAny_bind (wpAny_standAt (wpAny_bind (wpAny_mono h (fun r s₁ h₁ => ?_) hE)))
  cases r with
  | none => exact wpAny_pure h₁
  | some v =>
    refine wpAny_bind (wpAny_mono h₁ (fun _ s₀ h₀' => ?_) hE)
    refine wpAny_bind (wpAny_mono h₀' (fun _ s₂ h₂ => ?_) hE)
    exact wpAny_bind (wpAny_bind (wpAny_mono h₂ (fun x s₄ h₄ => wpAny_bind (wpAny_mono h₄ (fun _ s₅ h₅ => wpAny_pure (wpAny_pure ⟨rfl, h₅⟩)) hE)) hE))
end

/-- what an iterator of the store hands out -/
inductive Nxt : List PO → Nat → PV → List PO → Prop
  | list {σ : List PO} {i j n : Nat} {l : List PV} {pv : PV} : σ[j]? = some (.liter i n) → σ[i]? = some (.list l) → l[n]? = some pv → Nxt σ j pv (σ.set j (.liter i (n + 1)))
  | range {σ : List PO} {j : Nat} {x left : Int} : σ[j]? = some (.riter x left) → 0 < left → Nxt σ j (.int x) (σ.set j (.riter (x + 1) (left - 1)))
inductive NxtEnd : List PO → Nat → List PO → Prop
  | list {σ : List PO} {i j : Nat} {l : List PV} : σ[j]? = some (.liter i l.length) → σ[i]? = some (.list l) → NxtEnd σ j (σ.set j .any)
  | range {σ : List PO} {j : Nat} {x left : Int} : σ[j]? = some (.riter x left) → left ≤ 0 → NxtEnd σ j (σ.set j .any)
section
variable {W : Wd} {A : Around} {h₀ : Heap} {L it : Addr} {m : Str → Option Value} {D : List Addr} {I : Led} {s : Shared} {σ σ₁ : List PO} {j : Nat} {pv : PV} {Q : Option Value → Shared → Prop}
theorem next_ok {target : PySem.Expr} (hg : goFree target pv = true) (F : Fr h₀ L s.heap m) (S : W.S h₀ L s.heap σ D I) (hj : D[j]? = some it) (nx : Nxt σ j pv σ₁)
    (hQ : ∀ v h' tk', W.V I D v pv → Fr h₀ L h' m → W.S h₀ L h' σ₁ D I → (∀ Q' : Unit → Shared → Prop, Q' () { s with heap := h', toks := tk' } → wpAny W.M A (letOwnedTupleGo target (.ref it) v) Q' ff { s with heap := h', toks := tk' }) → Q (some v) { s with heap := h', toks := tk' }) :
    wpAny W.M A (pyNext (.ref it)) Q ff s := by
  cases nx with
  | list h1 h2 h3 =>
    rename_i i n l
    obtain ⟨a, o, ea, ho, q, up⟩ := St.turn F S h1
    rw [hj] at ea; cases ea
    cases q with
    | liter hd hc hdat =>
      obtain ⟨al, ol, os, el, eol, hol, _, ql, _, _⟩ := S.upd h2
      rw [hd] at el; cases el
      cases ql with
      | list r =>
        obtain ⟨v, ev, V⟩ := r.get h3
        refine wpAny_pyNext_list_item ⟨_, ho, hc, hdat⟩ ⟨_, hol, rfl, _, rfl⟩ (x := v) (by simpa using ev) fun h' hit' hs => ?_
        obtain ⟨o', ho', hc', hd'⟩ := hit'
        obtain ⟨F', S'⟩ := up h' o' (.liter i (n + 1)) (.liter hd hc' hd') ho' hs.extBut
        refine hQ v h' s.toks V F' S' fun Q' hq => ?_
        unfold goFree at hg
        split at hg
        · exact wpAny_pure hq
        · obtain ⟨b, rfl⟩ : ∃ a, v = .ref a := by cases V <;> exact ⟨_, rfl⟩
          exact wpAny_letOwnedTupleGo_listiter (i := n + 1) (s := { s with heap := h' }) ⟨_, ho', hc', hd'⟩ hq
        · cases hg
  | range h1 h3 =>
    rename_i x left
    obtain ⟨a, o, ea, ho, q, up⟩ := St.turn F S h1
    rw [hj] at ea; cases ea
    cases q with
    | riter =>
      refine wpAny_pyNext_range_item ho h3 fun h' hit' hs => ?_
      obtain ⟨F', S'⟩ := up h' _ (.riter (x + 1) (left - 1)) .riter hit' hs.extBut
      refine hQ _ h' _ (.int _ _) F' S' fun Q' hq => ?_
      unfold goFree at hg
      split at hg
      · exact wpAny_pure hq
      · rename_i e; cases e
      · cases hg
theorem end_ok (hh : A.handled = none) (F : Fr h₀ L s.heap m) (S : W.S h₀ L s.heap σ D I) (hj : D[j]? = some it) (nx : NxtEnd σ j σ₁)
    (hQ : ∀ h', Fr h₀ L h' m → W.S h₀ L h' σ₁ D I → Q none { s with heap := h' }) : wpAny W.M A (pyNext (.ref it)) Q ff s := by
  cases nx with
  | list h1 h2 =>
    obtain ⟨a, o, ea, ho, q, up⟩ := St.turn F S h1
    rw [hj] at ea; cases ea
    cases q with
    | liter hd hc hdat =>
      obtain ⟨al, ol, os, el, eol, hol, _, ql, _, _⟩ := S.upd h2
      rw [hd] at el; cases el
      cases ql with
      | list r =>
        refine listEnd hh ⟨_, ho, hc, hdat⟩ ⟨_, hol, rfl, _, rfl⟩ (by simp [r.length]) fun h' o' x ho' => ?_
        obtain ⟨F', S'⟩ := up h' o' .any .any ho' x
        exact hQ h' F' S'
  | range h1 h3 =>
    obtain ⟨a, o, ea, ho, q, up⟩ := St.turn F S h1
    rw [hj] at ea; cases ea
    cases q with
    | riter =>
      refine rangeEnd hh ho h3 fun h' o' x ho' => ?_
      obtain ⟨F', S'⟩ := up h' o' .any .any ho' x
      exact hQ h' F' S'
end

/-- the rest of a comprehension: its iterator at j, its list at k -/
noncomputable def LCOK (W : Wd) (cs' : Scope) (target elt : PySem.Expr) (j k : Nat) (ρ : Loc) (σ σ' : List PO) : Prop :=
  ∀ (A : Around) (env : Env) (g : Heap) (C : Addr) (cs : Scope) (cl' : List (Str × Addr)) (m : Str → Option Value) (D : List Addr) (I : Led) (s : Shared) (iter : PySem.Expr) (scope : Scope) (pos : Pos) (it acc : Addr),
    CE W A env g cs cs' cl' → Fr g C s.heap m → W.S g C s.heap σ D I → LR W cs' cl' I D m ρ → D[j]? = some it → D[k]? = some acc →
      ∀ R : Shared → Prop, (∀ h' tk' m' D' I', Fr g C h' m' → W.S g C h' σ' D' I' → Ext D I D' I' → R { s with heap := h', toks := tk' }) → CRest W.prog W.w A (compEnvC cs cl' C env) elt target iter scope pos (.ref it) (.ref acc) R s
section
variable {W : Wd} {cs' : Scope} {target elt : PySem.Expr} {j k : Nat} {ρ ρ₁ : Loc} {σ σ₁ σ₂ σ' : List PO} {pv q : PV} {l : List PV}
theorem LCOK.stop (nx : NxtEnd σ j σ₁) : LCOK W cs' target elt j k ρ σ σ₁ := by
  intro A env g C cs cl' m D I s iter scope pos it acc ce F S lr hj hk R hR
  exact comp_turn (end_ok ce.hh F S hj nx fun h' F' S' => hR h' s.toks m D I F' S' Ext.refl)
theorem LCOK.next (hg : goFree target pv = true) (nx : Nxt σ j pv σ₁) (ht : GCOK W cs' target ρ pv ρ₁) (he : EOK W 0 cs' ρ₁ elt σ₁ q σ₂) (hl : σ₂[k]? = some (.list l)) (hb : l.length ≤ 10000)
    (hw : LCOK W cs' target elt j k ρ₁ (σ₂.set k (.list (l ++ [q]))) σ') : LCOK W cs' target elt j k ρ σ σ' := by
  intro A env g C cs cl' m D I s iter scope pos it acc ce F S lr hj hk R hR
  refine comp_turn (next_ok (target := target) hg F S hj nx fun v h' tk' V F' S' go => go _ ?_)
  refine ht A env g C cs cl' m D I _ σ₁ v ce F' S' lr V _ fun h₂ tk₂ m₂ F₂ S₂ lr₂ => ?_
  refine he A (compEnvC cs cl' C env) g C m₂ D I _ (ce.ec lr₂) F₂ S₂ _ fun x h₃ tk₃ D₃ I₃ F₃ S₃ x₃ V₃ => ?_
  have e : pappend { orc0 with big := true } k q σ₂ = some (.none, σ₂.set k (.list (l ++ [q])), [.le l.length 10000]) := by
    unfold pappend; rw [hl]; rfl
  refine pappend_ok e (fun c hc => by rw [List.mem_singleton.mp hc]; exact hb) (.obj (x₃.d _ _ hk)) V₃ F₃ S₃ fun val h₄ tk₄ D₄ I₄ F₄ S₄ x₄ V₄ => ?_
  exact hw A env g C cs cl' m₂ D₄ I₄ _ iter scope pos it acc ce F₄ S₄ (lr₂.later (x₃.trans x₄)) (x₄.d _ _ (x₃.d _ _ hj)) (x₄.d _ _ (x₃.d _ _ hk)) R fun h' tk' m' D' I' F' S' x => hR h' tk' m' D' I' F' S' ((x₃.trans x₄).trans x)
end

/-- the frame of a comprehension -/
theorem comp_frame {W : Wd} {kk : Nat} {A : Around} {env : Env} {h₀ : Heap} {L : Addr} {csA cs cs' : Scope} {cl cl' : List (Str × Addr)} {m : Str → Option Value} {D : List Addr} {I : Led} {s : Shared} {σ σ' : List PO} {ρ₀ : Loc}
    {elt target iter : PySem.Expr} {pos : Pos} {j k : Nat} {it acc : Addr} {Q : Value → Shared → Prop}
    (xc : XC W kk A env h₀ L csA cl) (F : Fr h₀ L s.heap m) (S : W.S h₀ L s.heap σ D I) (hj : D[j]? = some it) (hk : D[k]? = some acc)
    (hsc : cs' = relabel cs env) (hkd : cs.kind = .function) (hcell : ∀ y ∈ cs.names, y.2 ≠ .cell)
    (hlr : LR W cs' cl' I D (fun _ => none) ρ₀) (hself : (∃ i n, σ[j]? = some (.liter i n)) ∨ ∃ x l, σ[j]? = some (.riter x l))
    (hw : LCOK W cs' target elt j k ρ₀ σ σ')
    (hQ : ∀ h' tk' D' I', Fr h₀ L h' m → W.S h₀ L h' σ' D' I' → Ext D I D' I' → Q (.ref acc) { s with heap := h', toks := tk' }) :
    wpAny W.M A (newFunctionEnv cs env.globals cl' [] env.qual none .none (some env)) (fun cenv s₄ =>
        codeAny W.M A (.compStart (.ListComp elt [⟨target, iter, [], 0⟩] cs pos) 0 (.ref it) (.ref acc) { cenv with scope := relabel cs env }) (compPost W.M A ff none Q (.ref acc) cenv.locals) s₄) ff s := by
  obtain ⟨os, N, Os, nd, ap⟩ := id S
  refine wpAny_newFunctionEnv hcell (by intro y hy; simp at hy) (fun h₁ hns₁ hsb₁ => ?_) hkd
  have up : ∀ b o, s.heap.get? b = some o → h₁.get? b = some o := fun b o e => hsb₁.extBut b o (Nat.ne_of_lt (Heap.lt_size e)) (Heap.get?_push_of_some _ e)
  have nm : ∀ b o, h₀.get? b = some o → b ∉ (D.zip os ++ I).map (·.1) := fun b o e q => by
    obtain ⟨p, hp, rfl⟩ := List.mem_map.mp q
    rw [(N p hp).2.2] at e; cases e
  have st : h₀.StaysIn (hideAll s.heap ((D.zip os ++ I).map (·.1))) := fun b o e => hideAll_get _ (F.keep b o e) (nm b o e)
  obtain ⟨oL, es, ep, hL, hLd, hLk, hLf⟩ := F.ns
  have nL : L ∉ (D.zip os ++ I).map (·.1) := fun q => by
    obtain ⟨p, hp, e⟩ := List.mem_map.mp q
    exact (N p hp).2.1 e
  have hLg := hideAll_get ((D.zip os ++ I).map (·.1)) hL nL
  have LC : L ≠ s.heap.objs.size := Nat.ne_of_lt (Heap.lt_size hL)
  have ce : CE W A env (hideAll s.heap ((D.zip os ++ I).map (·.1))) cs cs' cl' := by
    refine ⟨xc.ok, ⟨xc.gd.X.keeps st, xc.gd.T.keeps st⟩, xc.hh, by have := xc.un; omega, hsc, ?_, ?_, by rw [hsc]; exact hkd⟩
    · obtain ⟨_, _, _, rfl⟩ := xc.sh; rfl
    · obtain ⟨_, _, _, rfl⟩ := xc.sh; rfl
  have F₁ : Fr (hideAll s.heap ((D.zip os ++ I).map (·.1))) s.heap.objs.size h₁ (fun _ => none) := ⟨hns₁, fun b o e => up b o (of_hideAll _ e), Nat.le_of_eq (hideAll_size _ _)⟩
  have S₁ : W.S (hideAll s.heap ((D.zip os ++ I).map (·.1))) s.heap.objs.size h₁ σ D I :=
    ⟨os, fun p hp => ⟨up _ _ (N p hp).1, Nat.ne_of_lt (Heap.lt_size (N p hp).1), hideAll_none _ (List.mem_map_of_mem hp)⟩, Os, nd, ap⟩
  have loop : ∀ tk, codeAny W.M A (.compLoop (.ListComp elt [⟨target, iter, [], 0⟩] cs pos) 0 (.ref it) (.ref acc) (compEnvC cs cl' s.heap.objs.size env)) (compPost W.M A ff none Q (.ref acc) s.heap.objs.size) { s with heap := h₁, toks := tk } := by
    intro tk
    refine codeAny_mono (hw A env _ s.heap.objs.size cs cl' (fun _ => none) D I { s with heap := h₁, toks := tk } iter cs pos it acc ce F₁ S₁ hlr hj hk
      (fun s' => ∃ m, s'.heap.Ns s.heap.objs.size m ∧ ∀ h', Heap.SameBut s.heap.objs.size s'.heap h' → Q (.ref acc) { s' with heap := h' }) fun h' tk' m' D' I' F' S' x => ?_) fun r s' hr => ?_
    · refine ⟨m', F'.ns, fun h'' sb => ?_⟩
      obtain ⟨os', N', r'⟩ := S'
      refine hQ h'' tk' D' I' ⟨⟨oL, es, ep, (sb.2 L LC).trans (F'.keep L oL hLg), hLd, hLk, hLf⟩, fun b o e => (sb.2 b (Nat.ne_of_lt (Heap.lt_size (F.keep b o e)))).trans (F'.keep b o (st b o e)), F.above⟩
        ⟨os', fun p hp => ⟨(sb.2 p.1 (N' p hp).2.1).trans (N' p hp).1, fun q => ?_, ?_⟩, r'⟩ x
      · have := (N' p hp).2.2; rw [q, hLg] at this; cases this
      · cases q : h₀.get? p.1 with
        | none => rfl
        | some o => have := (N' p hp).2.2; rw [st _ _ q] at this; cases this
    · cases r with
      | ok f => exact hr
      | error e => exact hr.elim
  refine codeAny_compStart_list (loop _) ?_
  obtain ⟨a, o, os2, ea, eo, ho, _, q, _, _⟩ : ∃ a o os2, D[j]? = some a ∧ os2 = os ∧ h₁.get? a = some o ∧ True ∧ (∃ po, σ[j]? = some po ∧ OR W.prog W.w W.K I D a o po) ∧ True ∧ True := by
    rcases hself with ⟨i, n, e⟩ | ⟨x, l, e⟩
    · obtain ⟨a, o, os', ea, eo, ho, _, q, _⟩ := S₁.upd e
      exact ⟨a, o, os, ea, rfl, ho, trivial, ⟨_, e, q⟩, trivial, trivial⟩
    · obtain ⟨a, o, os', ea, eo, ho, _, q, _⟩ := S₁.upd e
      exact ⟨a, o, os, ea, rfl, ho, trivial, ⟨_, e, q⟩, trivial, trivial⟩
  rw [hj] at ea; cases ea
  obtain ⟨po, ep', q⟩ := q
  rcases hself with ⟨i, n, e⟩ | ⟨x, l, e⟩
  · rw [e] at ep'; cases ep'
    cases q with
    | liter hd hc hdat => exact wpAny_pyIter_listiter (i := n) ⟨_, ho, hc, hdat⟩ (loop _)
  · rw [e] at ep'; cases ep'
    cases q with
    | riter => exact wpAny_pyIter_rangeiter ho (loop _)
end Mine
end D20
section D21
namespace Mine
open PM

noncomputable def XOK (W : Wd) (k : Nat) (cs : Scope) (cl : List (Str × Addr)) (P : Heap → Prop) (ρ : Loc) (e : PySem.Expr) (σ : List PO) (v : PV) (σ' : List PO) : Prop := ∀ (A : Around) (env : Env) (h₀ : Heap) (L : Addr) (m : Str → Option Value) (D : List Addr) (I : Led) (s : Shared),
  P h₀ → XC W k A env h₀ L cs cl → Fr h₀ L s.heap m → W.S h₀ L s.heap σ D I → LR W cs cl I D m ρ → ∀ Q, Ret W h₀ L m D I s σ' v Q → wpAny W.M A (eval e env) Q ff s
theorem XOK.of {W : Wd} {k : Nat} {cs : Scope} {cl : List (Str × Addr)} {P : Heap → Prop} {ρ : Loc} {e : PySem.Expr} {σ σ' : List PO} {v : PV} (h : EOK W k cs ρ e σ v σ') : XOK W k cs cl P ρ e σ v σ' :=
  fun A env h₀ L m D I s _ xc F S lr Q hR => h A env h₀ L m D I s (xc.ec lr) F S Q hR

/-- what a comprehension's scope asks -/
structure CS (W : Wd) (cs : Scope) (cl : List (Str × Addr)) (ρ : Loc) (scope : Scope) (cs' : Scope) (cl' : List (Str × Addr)) (ρ₀ : Loc) : Prop where
  rel : ∀ qual L f cdv, cs' = relabel scope (envX qual cs L f cdv cl)
  clos : ∀ qual L f cdv, closureFor scope (envX qual cs L f cdv cl) = pure cl'
  kd : scope.kind = .function
  cell : ∀ y ∈ scope.names, y.2 ≠ .cell
  nms : ∀ y ∈ scope.names, y.2 = .local → scope.names.lookup y.1 = some .local
  lr : ∀ (I : Led) (D : List Addr) (m : Str → Option Value), LR W cs cl I D m ρ → LR W cs' cl' I D (fun _ => none) ρ₀

section
variable {W : Wd} {k : Nat} {cs cs' scope : Scope} {cl cl' : List (Str × Addr)} {P : Heap → Prop} {ρ ρ₀ : Loc} {elt target iter : PySem.Expr} {pos : Pos} {σ σ₁ σ' : List PO}
theorem comp_rest (c : CS W cs cl ρ scope cs' cl' ρ₀) {A : Around} {env : Env} {h₀ : Heap} {L : Addr} {m : Str → Option Value} {D : List Addr} {I : Led} {s : Shared} {it : Addr} {Q : Value → Shared → Prop} {j : Nat}
    (xc : XC W k A env h₀ L cs cl) (F : Fr h₀ L s.heap m) (S : W.S h₀ L s.heap σ₁ D I) (lr : LR W cs cl I D m ρ) (hj : D[j]? = some it) (hlen : j < σ₁.length)
    (hself : (∃ i n, σ₁[j]? = some (.liter i n)) ∨ ∃ x l, σ₁[j]? = some (.riter x l))
    (hw : LCOK W cs' target elt j σ₁.length ρ₀ (σ₁ ++ [.list []]) σ') (hR : Ret W h₀ L m D I s σ' (.obj σ₁.length) Q) :
    wpAny W.M A (newList []) (fun acc s₃ => wpAny W.M A (newFunctionEnv scope env.globals cl' [] env.qual none .none (some env)) (fun cenv s₄ =>
        codeAny W.M A (.compStart (.ListComp elt [⟨target, iter, [], 0⟩] scope pos) 0 (.ref it) acc { cenv with scope := relabel scope env }) (compPost W.M A ff none Q acc cenv.locals) s₄) ff s₃) ff s := by
  refine newList_ok (vs := []) rfl .nil F S fun val h' tk' D' I' F' S' x V => ?_
  obtain ⟨acc, hk, rfl⟩ : ∃ acc, D'[σ₁.length]? = some acc ∧ val = .ref acc := by
    cases V with
    | obj h => exact ⟨_, h, rfl⟩
  have hsc : cs' = relabel scope env := by obtain ⟨qual, f, cdv, rfl⟩ := xc.sh; exact c.rel qual L f cdv
  refine comp_frame (csA := cs) (cl := cl) (s := { s with heap := h', toks := tk' }) xc F' S' (x.d _ _ hj) hk hsc c.kd c.cell (c.lr I' D' m (lr.later x)) ?_ hw fun h'' tk'' D'' I'' F'' S'' y => ?_
  · rw [List.getElem?_append_left hlen]; exact hself
  · exact hR (.ref acc) h'' tk'' D'' I'' F'' S'' (x.trans y) (.obj (y.d _ _ hk))
theorem XOK.compList {i : Nat} {l : List PV} (c : CS W cs cl ρ scope cs' cl' ρ₀) (hi : XOK W k cs cl P ρ iter σ (.obj i) σ₁) (h2 : σ₁[i]? = some (.list l)) (hs : ∀ env x, foldedSetIterable iter env x = pure x)
    (hw : LCOK W cs' target elt σ₁.length (σ₁.length + 1) ρ₀ (σ₁ ++ [.liter i 0] ++ [.list []]) σ') : XOK W k cs cl P ρ (.ListComp elt [⟨target, iter, [], 0⟩] scope pos) σ (.obj (σ₁.length + 1)) σ' := by
  intro A env h₀ L m D I s hP xc F S lr Q hR
  rw [eval_ListComp]
  have hclos : closureFor scope env = pure cl' := by obtain ⟨qual, f, cdv, rfl⟩ := xc.sh; exact c.clos qual L f cdv
  refine wpAny_comprehension_free (use := none) rfl (hs env) hclos c.kd c.nms (hi A env h₀ L m D I s hP xc F S lr _ fun va ha ta Da Ia Fa Sa xa Va => ?_)
  obtain ⟨al, ol, os, el, eol, hol, _, ql, Nn, _⟩ := Sa.upd h2
  cases Va with
  | obj hd =>
    rw [hd] at el; cases el
    cases ql with
    | list r =>
      refine wpAny_pyIter_list ⟨_, hol, rfl, _, rfl⟩ ?_
      have off : (∀ a ∈ Da, a ≠ ha.objs.size) ∧ ∀ p ∈ Ia, p.1 ≠ ha.objs.size := by
        obtain ⟨os', N', Os', _⟩ := Sa
        exact St.off (W := W) Os' (q := ha.objs.size) fun p hp => Heap.lt_size (N' p hp).1
      have S' : W.S h₀ L (ha.push { cls := .type "list_iterator", data := .fields #[.ref al, .int 0 0] }) (σ₁ ++ [.liter i 0]) (Da ++ [ha.objs.size]) Ia :=
        Sa.more off.1 off.2 (.liter ((Ext.snoc (I := Ia)).d _ _ hd) rfl rfl) fun os N => N.push Fa _
      refine comp_rest (σ₁ := σ₁ ++ [.liter i 0]) (j := σ₁.length) c (s := { s with heap := _, toks := ta }) xc (Fa.push _) S' (lr.later (xa.trans Ext.snoc)) (by rw [← Sa.len]; exact get_snoc) (by simp) (.inl ⟨i, 0, by simp⟩) (by simpa using hw) ?_
      have := hR.later (h' := ha.push { cls := .type "list_iterator", data := .fields #[.ref al, .int 0 0] }) (tk' := ta) (xa.trans (Ext.snoc (x := ha.objs.size)))
      simpa using this
theorem XOK.compRange {e : PySem.Expr} {pr cpos : Pos} {n : Int} {rg : Str} (c : CS W cs cl ρ scope cs' cl' ρ₀) (hg : nameE W.Tb cs ρ rg = some (.glo (.type "range"))) (hn : noStar [e] = true) (he : LOK W k cs ρ [e] σ [.int n] σ₁) (h0 : 0 ≤ n) (h1 : n < 2 ^ 62)
    (hs : ∀ env x, foldedSetIterable (.Call (.Name rg pr) [e] [] cpos) env x = pure x)
    (hw : LCOK W cs' target elt σ₁.length (σ₁.length + 1) ρ₀ (σ₁ ++ [.riter 0 n] ++ [.list []]) σ') : XOK W k cs cl P ρ (.ListComp elt [⟨target, .Call (.Name rg pr) [e] [] cpos, [], 0⟩] scope pos) σ (.obj (σ₁.length + 1)) σ' := by
  intro A env h₀ L m D I s hP xc F S lr Q hR
  rw [eval_ListComp]
  have hclos : closureFor scope env = pure cl' := by obtain ⟨qual, f, cdv, rfl⟩ := xc.sh; exact c.clos qual L f cdv
  refine wpAny_comprehension_free (use := none) rfl (hs env) hclos c.kd c.nms ?_
  show wpAny W.M A (eval (.Call (.Name rg pr) [e] [] cpos) env) _ ff s
  rw [call_eq (by intro _ _ _ h; cases h)]
  have ec := xc.ec (D := D) (I := I) lr
  refine wpAny_bind (ec.nm _ _ hg pr s σ D I Ext.refl F S _ fun v V => ?_)
  cases V
  refine callW (P := fun _ => True) (first := []) hn (fun h _ => ⟨.machine, .inr (.inl rfl), Looks.now⟩) (he A env h₀ L m D I s cpos ec F S _ fun vals ha ta Da Ia Fa Sa xa Va => ⟨trivial, ?_⟩)
  cases Va with
  | cons V1 V2 =>
    cases V2
    cases V1 with
    | int _ tn =>
    refine call_range_1 ?_
    refine wpAny_pyIter_range (Heap.get?_push_size _ rfl) (small_one (by decide) (by decide) (by omega) h1) ?_
    have e1 : Builtin.Range.rangeSize 0 n 1 = n := by rw [rangeSize_one]; split <;> omega
    rw [e1]
    have Fb := Fa.push { cls := .type "range", data := .fields #[.int 0 ta, .int n tn, .int 1 (ta + 1)] }
    have Sb : W.S h₀ L (ha.push { cls := .type "range", data := .fields #[.int 0 ta, .int n tn, .int 1 (ta + 1)] }) σ₁ Da Ia := St.ext Sa ((Heap.ExtBut.refl _ _).push _)
    have off : ∀ hb : Heap, W.S h₀ L hb σ₁ Da Ia → (∀ a ∈ Da, a ≠ hb.objs.size) ∧ ∀ p ∈ Ia, p.1 ≠ hb.objs.size := by
      rintro hb ⟨os', N', Os', _⟩
      exact St.off (W := W) Os' (q := hb.objs.size) fun p hp => Heap.lt_size (N' p hp).1
    have S' := Sb.more (po := .riter 0 n) (off _ Sb).1 (off _ Sb).2 .riter fun os N => N.push Fb _
    refine comp_rest (σ₁ := σ₁ ++ [.riter 0 n]) (j := σ₁.length) c (s := { s with heap := _, toks := ta + 1 + 1 }) xc (Fb.push _) S' (lr.later (xa.trans Ext.snoc)) (by rw [← Sb.len]; exact get_snoc) (by simp) (.inr ⟨0, n, by simp⟩) (by simpa using hw) ?_
    have := hR.later (h' := (ha.push { cls := .type "range", data := .fields #[.int 0 ta, .int n tn, .int 1 (ta + 1)] }).push { cls := .type "range_iterator", data := .fields #[rawInt 0, rawInt n, rawInt 1] }) (tk' := ta + 1 + 1) (xa.trans (Ext.snoc (x := (ha.push { cls := .type "range", data := .fields #[.int 0 ta, .int n tn, .int 1 (ta + 1)] }).objs.size)))
    simpa using this
end
end Mine
end D21
section D22
namespace Mine
open PM

section
variable {W : Wd} {k : Nat} {cs : Scope} {cl : List (Str × Addr)} {P : Heap → Prop} {ρ ρ₁ ρ' : Loc} {σ σ₁ σ₂ σ' : List PO} {O : Orc} {C : List Con}

theorem XOK.join {apos pos p0 : Pos} {kk : Nat} {e : PySem.Expr} {i : Nat} {l : List PV} {ys : List Str} (hc : XOK W k cs cl P ρ e σ (.obj i) σ₁) (hl : σ₁[i]? = some (.list l)) (hy : strsOf l = some ys) (h1 : ∀ a ∈ ys, a.length ≤ 10) (h2 : ys.length ≤ 10000)
    (hn : noStar [e] = true) (hp : (apos.endLine == pos.line) = true) : XOK W k cs cl P ρ (.Call (.Attribute (.Constant (.str "") kk p0) "join" apos) [e] [] pos) σ (.str (Txt.join "" ys)) σ₁ := by
  intro A env h₀ L m D I s hP xc F S lr Q hR
  refine MethodCall_ (Calls.Constant_str ?_) (method_eq rfl hn rfl hp)
  refine GM.join (callW hn keeps_builtin (args_cons (hc A env h₀ L m D I { s with toks := s.toks + 1 } hP xc F S lr _ fun va ha ta Da Ia Fa Sa xa Va => args_nil ⟨trivial, ?_⟩) (starEach_cons hn)))
  have ev : pstrM { orc0 with stl := fun _ => some ys } "" "join" [.obj i] σ₁ = some (.str (Txt.join "" ys), σ₁, [.stl l ys]) := by
    unfold pstrM
    rw [show (("join" : Str) == "count") = false from by kernel_rfl, show (("join" : Str) == "split") = false from by kernel_rfl, show (("join" : Str) == "join") = true from by kernel_rfl]
    dsimp only
    rw [hl]
    rfl
  rcases pstrM_ok (A := A) (E := ff) (t := s.toks) (s := { s with heap := ha, toks := ta }) ev (fun c hc => by rw [List.mem_singleton.mp hc]; exact ⟨hy, h1, h2⟩) (.cons Va .nil) Fa Sa (hR.later xa) with ⟨q, _⟩ | ⟨q, _⟩ | ⟨_, q⟩
  · exact absurd q (by decide)
  · exact absurd q (by decide)
  · exact q

theorem XOK.add {l r : PySem.Expr} {pos : Pos} {a b v : PV} {op : Operator} (hl : XOK W k cs cl P ρ l σ a σ₁) (hr : XOK W k cs cl P ρ r σ₁ b σ₂) (h : pbin O op a b σ₂ = some (v, σ', C)) (hc : ∀ c ∈ C, c.holds W) : XOK W k cs cl P ρ (.BinOp l op r pos) σ v σ' := by
  intro A env h₀ L m D I s hP xc F S lr Q hR
  refine wpAny_BinOp (hl A env h₀ L m D I s hP xc F S lr _ fun va ha ta Da Ia Fa Sa xa Va => ?_)
  refine hr A env h₀ L m Da Ia _ hP xc Fa Sa (lr.later xa) _ fun vb hb tb Db Ib Fb Sb xb Vb => ?_
  exact pbin_ok h hc (Va.mono xb) Vb Fb Sb (hR.later (xa.trans xb))
theorem XOK.callB {f : Str} {pf pos : Pos} {e : PySem.Expr} {a v : PV} {b : String} (hf : nameE W.Tb cs ρ f = some (.glo (.builtin b))) (hn : noStar [e] = true) (he : XOK W k cs cl P ρ e σ a σ₁)
    (h : papB W.Tb O b [a] σ₁ = some (v, σ', C)) (hc : ∀ c ∈ C, c.holds W) : XOK W k cs cl P ρ (.Call (.Name f pf) [e] [] pos) σ v σ' := by
  intro A env h₀ L m D I s hP xc F S lr Q hR
  rw [call_eq (by intro _ _ _ h; cases h)]
  have ec := xc.ec (D := D) (I := I) lr
  refine wpAny_bind (ec.nm _ _ hf pf s σ D I Ext.refl F S _ fun v V => ?_)
  cases V
  refine callW (first := []) hn keeps_builtin (args_cons (he A env h₀ L m D I s hP xc F S lr _ fun va ha ta Da Ia Fa Sa xa Va => args_nil ⟨trivial, ?_⟩) (starEach_cons hn))
  exact papB_ok xc.ok h hc (.cons Va .nil) (xc.gd.X.keeps Fa.keep) Fa Sa (hR.later xa)
theorem XOK.sliceFrom {o lo : PySem.Expr} {sp pos : Pos} {a b v : PV} (ho : XOK W k cs cl P ρ o σ a σ₁) (hl : XOK W k cs cl P ρ lo σ₁ b σ₂) (h : pslice O a b .none σ₂ = some (v, σ', C)) (hc : ∀ c ∈ C, c.holds W) :
    XOK W k cs cl P ρ (.Subscript o (.Slice (some lo) none none sp) pos) σ v σ' := by
  intro A env h₀ L m D I s hP xc F S lr Q hR
  refine Subscript_ (ho A env h₀ L m D I s hP xc F S lr _ fun va ha ta Da Ia Fa Sa xa Va => ?_)
  refine wpAny_Slice (evalPart_some_step (hl A env h₀ L m Da Ia _ hP xc Fa Sa (lr.later xa) _ fun vb hb tb Db Ib Fb Sb xb Vb => ?_))
  refine evalPart_none_step (evalPart_none_step ?_)
  exact pslice_ok (s := { s with heap := hb, toks := tb }) h hc (Va.mono xb) Vb .none Fb Sb (hR.later (xa.trans xb))
/-- a slice of a list that was there before -/
theorem XOK.oldSlice {x : Str} {px p2 sp pos : Pos} {kk : Nat} {a : Addr} {vs : List Value} {ns : List Int} {n : Int} (hP : ∀ h, P h → h.IsList a vs.toArray) (hx : nameE W.Tb cs ρ x = some (.glo (.ref a))) (hV : ∀ I D v, W.V I D v (.glo (.ref a)) → v = .ref a) (hi : IntsAre vs ns) (hl : ns.length ≤ 1000) (h0 : 0 ≤ n) :
    XOK W k cs cl P ρ (.Subscript (.Name x px) (.Slice none (some (.Constant (.int n) kk p2)) none sp) pos) σ (.obj σ.length) (σ ++ [.list ((ns.take n.toNat).map .int)]) := by
  intro A env h₀ L m D I s hp xc F S lr Q hR
  have ec := xc.ec (D := D) (I := I) lr
  refine Subscript_ (ec.nm _ _ hx px s σ D I Ext.refl F S _ fun v V => ?_)
  obtain rfl := hV _ _ _ V
  refine wpAny_Slice (evalPart_none_step ?_)
  refine evalPart_some_step (wpAny_Constant_int ?_)
  refine evalPart_none_step ?_
  obtain ⟨os, N, Os, nd, ap⟩ := S
  refine kmk_slice_ints (s := { s with toks := _ }) (c := (ns.take n.toNat).length) F N (F.lst (hP _ hp)) .none (.int _ _) hi (kmk_upto hi h0) rfl (fun d ws h' F' N' lt hw _ _ => ?_) (by rfl) (by intro _; rfl) (by rw [List.size_toArray, hi.length]; exact le_line hl)
  have off := St.off (W := W) Os lt
  have rr : ∀ {ws : List Value} {ms : List Int}, IntsAre ws ms → ∀ {D' : List Addr}, VRs W.K I D' ws (ms.map .int) := by
    intro ws ms h
    induction h with
    | nil => exact .nil
    | cons => rename_i ih; intro D'; exact .cons (.int _ _) ih
  exact hR (.ref d) h' _ (D ++ [d]) I F' (St.more_of Os nd ap off.1 off.2 (.list (rr hw)) N') Ext.snoc (.obj (by rw [← Os.len.2]; exact get_snoc))

/-- the rest of the law: it hands back what pv says -/
noncomputable def TSS (W : Wd) (k : Nat) (cs : Scope) (cl : List (Str × Addr)) (P : Heap → Prop) (ρ : Loc) (ss : List Stmt) (σ : List PO) (b : Bool) : Prop :=
  ∀ (A : Around) (env : Env) (h₀ : Heap) (L : Addr) (m : Str → Option Value) (D : List Addr) (I : Led) (s : Shared),
    P h₀ → XC W k A env h₀ L cs cl → Fr h₀ L s.heap m → W.S h₀ L s.heap σ D I → LR W cs cl I D m ρ → ∀ Q : Flow → Shared → Prop, (∀ h' tk' m', Fr h₀ L h' m' → Q (.ret (.bool b)) { s with heap := h', toks := tk' }) → wpAny W.M A (execs ss env) Q ff s
theorem TSS.ret {st : Stmt} {r : List Stmt} {b : Bool} (h : SOK W k cs ρ st σ (.ret (.bool b)) ρ' σ') : TSS W k cs cl P ρ (st :: r) σ b := by
  intro A env h₀ L m D I s hP xc F S lr Q hQ
  refine wpAny_execs_cons (h A env h₀ L m D I s cl xc F S lr _ fun f h' tk' m' D' I' F' S' x lr' fr => ?_)
  cases f with
  | ret u =>
    cases (show W.V I' D' u (.bool b) from fr)
    exact hQ h' tk' m' F'
  | _ => exact fr.elim
theorem TSS.cons {st : Stmt} {r : List Stmt} {b : Bool} (h : SOK W k cs ρ st σ .next ρ₁ σ₁) (hr : TSS W k cs cl P ρ₁ r σ₁ b) : TSS W k cs cl P ρ (st :: r) σ b := by
  intro A env h₀ L m D I s hP xc F S lr Q hQ
  refine wpAny_execs_cons (h A env h₀ L m D I s cl xc F S lr _ fun f h' tk' m' D' I' F' S' x lr' fr => ?_)
  cases f with
  | next => exact hr A env h₀ L m' D' I' _ hP xc F' S' lr' Q hQ
  | _ => exact fr.elim
theorem TSS.assign {x : Str} {px pos : Pos} {e : PySem.Expr} {r : List Stmt} {b : Bool} {v : PV} (hn : notComp e = true) (hx : isLocal cs x = true) (h : XOK W k cs cl P ρ e σ v σ₁) (hr : TSS W k cs cl P (setL x v ρ) r σ₁ b) : TSS W k cs cl P ρ (.Assign [.Name x px] e pos :: r) σ b := by
  intro A env h₀ L m D I s hP xc F S lr Q hQ
  refine wpAny_execs_cons (wpAny_Assign_Name (h A env h₀ L m D I s hP xc F S lr _ fun va ha ta Da Ia Fa Sa xa Va => ?_) (swapsWith_no hn _ _ _))
  exact store_ok xc (isLocal_ok hx) Fa Sa (lr.later xa) Va fun h' m' F' S' lr' => hr A env h₀ L m' Da Ia _ hP xc F' S' lr' Q hQ
/-- the names that hold nothing of the store are kept, the store is let go -/
theorem TSS.reset {ss : List Stmt} {b : Bool} (hρ : ∀ x pv, ρ₁.lookup x = some pv → ρ.lookup x = some pv ∧ (∃ t, pv = .str t) ∧ cs.names.lookup x = some .local) (hr : TSS W k cs cl P ρ₁ ss [] b) : TSS W k cs cl P ρ ss σ b := by
  intro A env h₀ L m D I s hP xc F S lr Q hQ
  have S' : W.S h₀ L s.heap ([] ++ σ) D I := S
  refine hr A env h₀ L m (D.take 0) I s hP xc F (St.drop S' rfl) (fun x pv e => ?_) Q hQ
  obtain ⟨e1, ⟨t, rfl⟩, e2⟩ := hρ x pv e
  have z := lr x _ e1
  rw [e2] at z ⊢
  obtain ⟨v, a, V⟩ := z
  cases V
  exact ⟨_, a, .str _ _⟩
/-- the cell takes its list -/
theorem TSS.cell {x : Str} {px pos : Pos} {e : PySem.Expr} {r : List Stmt} {b : Bool} {j : Nat} {ns : List Int} {c : Addr} (hn : notComp e = true) (hx : cs.names.lookup x = some .cell) (hcl : cl.lookup x = some c) (h : XOK W k cs cl P ρ e σ (.obj j) σ₁) (hj : σ₁[j]? = some (.list (ns.map .int)))
    (hr : TSS W k cs cl P [(x, .obj 0)] r [.list (ns.map .int)] b) :
    ∀ (A : Around) (env : Env) (h₀ : Heap) (L : Addr) (m : Str → Option Value) (D : List Addr) (I : Led) (s : Shared) (o : Obj) (v₀ : Option Value), (c, o) ∈ I → o.data = .cell v₀ →
    P h₀ → XC W k A env h₀ L cs cl → Fr h₀ L s.heap m → W.S h₀ L s.heap σ D I → LR W cs cl I D m ρ → ∀ Q : Flow → Shared → Prop, (∀ h' tk' m', Fr h₀ L h' m' → Q (.ret (.bool b)) { s with heap := h', toks := tk' }) → wpAny W.M A (execs (.Assign [.Name x px] e pos :: r) env) Q ff s := by
  intro A env h₀ L m D I s o v₀ hm hd hP xc F S lr Q hQ
  refine wpAny_execs_cons (wpAny_Assign_Name (h A env h₀ L m D I s hP xc F S lr _ fun va ha ta Da Ia Fa Sa xa Va => ?_) (swapsWith_no hn _ _ _))
  obtain ⟨d, vs, n, os, rfl, ho, rr, hdd, eo, N, up⟩ := list_at (s := { s with heap := ha, toks := ta }) Sa Va hj
  have hmI := xa.i _ hm
  have hcd : c ≠ d := by
    obtain ⟨_, _, _, _, ap⟩ := Sa
    intro q
    exact ap _ hmI (q ▸ List.mem_of_getElem? hdd)
  have N2 : News h₀ L ha [(c, o), (d, listOf vs.toArray n)] := by
    intro p hp
    rcases List.mem_cons.mp hp with rfl | hp
    · exact Sa.newsI _ hmI
    · rw [List.mem_singleton.mp hp]
      exact N _ (List.mem_append_left _ (mem_zip_get hdd eo))
  have U : UpdF c o [(c, o), (d, listOf vs.toArray n)] (fun o' => [(c, o'), (d, listOf vs.toArray n)]) := .head fun p hp => by
    rw [List.mem_singleton.mp hp]; exact hcd.symm
  obtain ⟨qual, f, cdv, rfl⟩ := xc.sh
  refine storeX_C (s := { s with heap := ha, toks := ta }) Fa N2 hcl U hd (fun h' o' F' N' hd' => ?_) xc.kd hx
  have rr' : ∀ {vs : List Value} {ms : List Int} {I D I' D'}, VRs W.K I D vs (ms.map .int) → VRs W.K I' D' vs (ms.map .int) := by
    intro vs ms I D I' D' h
    induction ms generalizing vs with
    | nil => cases h; exact .nil
    | cons a r ih =>
      cases h with
      | cons V1 V2 => cases V1; exact .cons (.int _ _) (ih V2)
  refine hr A _ h₀ L m [d] [(c, o')] { s with heap := h', toks := ta } hP xc F' ⟨[listOf vs.toArray n], fun p hp => ?_, .cons (.list (rr' rr)) .nil, by simp, fun p hp hq => ?_⟩ (fun y pv e => ?_) Q hQ
  · refine N' p ?_
    rcases List.mem_append.mp hp with q | q
    · rw [List.mem_singleton.mp q]; exact .tail _ (.head _)
    · rw [List.mem_singleton.mp q]; exact .head _
  · rw [List.mem_singleton.mp hp] at hq
    exact hcd (List.mem_singleton.mp hq)
  · rw [List.lookup_cons] at e
    split at e
    · rename_i q
      cases e
      have : y = x := by simpa using q
      subst this
      rw [hx]
      exact ⟨c, o', _, hcl, .head _, hd', .obj rfl⟩
    · cases e
end
end Mine
end D22
section D23
namespace Mine
open PM

noncomputable def kids : PySem.Expr → List PySem.Expr
  | .BinOp l _ r _ => [l, r]
  | .ListComp e gs _ _ => e :: gs.flatMap fun g => [g.target, g.iter]
  | .Subscript v i _ => [v, i]
  | .Slice a b c _ => [a, b, c].filterMap id
  | .Call f as _ _ => f :: as
  | .Attribute v _ _ => [v]
  | .UnaryOp _ e _ => [e]
  | .Compare l _ rs _ => l :: rs
  | .IfExp t b o _ => [t, b, o]
  | .Tuple es _ _ => es
  | .List es _ => es
  | _ => []
noncomputable def pth : PySem.Expr → List Nat → PySem.Expr
  | e, [] => e
  | e, i :: r => pth (eAt (kids e) i) r
noncomputable def scO : PySem.Expr → Scope
  | .ListComp _ _ s _ => s
  | _ => default
noncomputable def stE : Stmt → PySem.Expr
  | .Assign _ e _ => e
  | .Return (some e) _ => e
  | .For _ i _ _ _ => i
  | _ => .Constant .none 0 default
noncomputable def stT : Stmt → PySem.Expr
  | .Assign [t] _ _ => t
  | _ => .Constant .none 0 default
noncomputable def stP : Stmt → Pos
  | .Assign _ _ p => p
  | .Return _ p => p
  | .For _ _ _ _ p => p
  | _ => default
noncomputable def csW : Scope := (fnAt 423).scope
noncomputable def le (i : Nat) : PySem.Expr := stE (bd 423 i)
noncomputable abbrev pp (i : Nat) (l : List Nat) : Pos := (pth (le i) l).pos
noncomputable abbrev pk (i : Nat) (l : List Nat) : Nat := conK (pth (le i) l)
theorem law_1 : bd 423 1 = .Assign [.Name "cells" (stT (bd 423 1)).pos] (.BinOp (.ListComp (pth (le 1) [0, 0]) [⟨.Name "one" (pp 1 [0, 1]), .Subscript (.Name "script" (pp 1 [0, 2, 0])) (.Slice none (some (.Constant (.int 2) (pk 1 [0, 2, 1, 0]) (pp 1 [0, 2, 1, 0]))) none (pp 1 [0, 2, 1])) (pp 1 [0, 2]), [], 0⟩] (scO (pth (le 1) [0])) (pp 1 [0])) .Add
    (.Subscript (.Name "usual" (pp 1 [1, 0])) (.Slice (some (.Call (.Name "len" (pp 1 [1, 1, 0, 0])) [.Subscript (.Name "script" (pp 1 [1, 1, 0, 1, 0])) (.Slice none (some (.Constant (.int 2) (pk 1 [1, 1, 0, 1, 1, 0]) (pp 1 [1, 1, 0, 1, 1, 0]))) none (pp 1 [1, 1, 0, 1, 1])) (pp 1 [1, 1, 0, 1])] [] (pp 1 [1, 1, 0]))) none none (pp 1 [1, 1])) (pp 1 [1])) (pp 1 [])) (stP (bd 423 1)) := by kernel_rfl
theorem law_2 : bd 423 2 = .Assign [.Name "word" (stT (bd 423 2)).pos] (.Call (.Attribute (.Constant (.str "") (pk 2 [0, 0]) (pp 2 [0, 0])) "join" (pp 2 [0])) [.ListComp (pth (le 2) [1, 0]) [⟨.Name "at" (pp 2 [1, 1]), .Call (.Name "range" (pp 2 [1, 2, 0])) [pth (le 2) [1, 2, 1]] [] (pp 2 [1, 2]), [], 0⟩] (scO (pth (le 2) [1])) (pp 2 [1])] [] (pp 2 [])) (stP (bd 423 2)) := by kernel_rfl
theorem law_3 : bd 423 3 = .Assign [.Name "image" (stT (bd 423 3)).pos] (.Call (.Attribute (.Constant (.str "") (pk 3 [0, 0]) (pp 3 [0, 0])) "join" (pp 3 [0])) [.ListComp (pth (le 3) [1, 0]) [⟨.Name "sign" (pp 3 [1, 1]), .Name "word" (pp 3 [1, 2]), [], 0⟩] (scO (pth (le 3) [1])) (pp 3 [1])] [] (pp 3 [])) (stP (bd 423 3)) := by kernel_rfl
theorem law_3e : pth (le 3) [1, 0] = .IfExp (.Compare (.Name "sign" (pp 3 [1, 0, 0, 0])) [.Eq] [.Constant (.str "a") (pk 3 [1, 0, 0, 1]) (pp 3 [1, 0, 0, 1])] (pp 3 [1, 0, 0])) (.Constant (.str "ab") (pk 3 [1, 0, 1]) (pp 3 [1, 0, 1])) (.Constant (.str "ba") (pk 3 [1, 0, 2]) (pp 3 [1, 0, 2])) (pp 3 [1, 0]) := by kernel_rfl
theorem law_4 : bd 423 4 = .Assign [.Name "figures" (stT (bd 423 4)).pos] (.Call (.Attribute (.Constant (.str "") (pk 4 [0, 0]) (pp 4 [0, 0])) "join" (pp 4 [0])) [.ListComp (pth (le 4) [1, 0]) [⟨.Name "part" (pp 4 [1, 1]), pth (le 4) [1, 2], [], 0⟩] (scO (pth (le 4) [1])) (pp 4 [1])] [] (pp 4 [])) (stP (bd 423 4)) := by kernel_rfl

-- the words' digits
noncomputable def dig (c : Int) (i : Nat) : Int := (c.fdiv (2 ^ i)).fmod 2
noncomputable def wordL (c : Int) (n : Nat) : List Str := (List.range n).map fun i => Txt.item "ab" (dig c i)

section
variable (w : World) (mean : ExcName → Option Value) (mg mb : Str → Option Value)
variable (c : Addr)
noncomputable abbrev clW (c : Addr) : List (Str × Addr) := [("cells", c)]
noncomputable def cs1 : Scope := relabel (scO (pth (le 1) [0])) (envX "" csW 0 0 .none [("cells", 0)])
noncomputable def cs2 : Scope := relabel (scO (pth (le 2) [1])) (envX "" csW 0 0 .none [("cells", 0)])
noncomputable def cs4 : Scope := relabel (scO (pth (le 4) [1])) (envX "" csW 0 0 .none [("cells", 0)])
noncomputable def abI (x : Int) : PV := .int (if x < 0 then -x else x)
theorem el_1 (x : Int) (σ : List PO) : pe tab O1 100 0 cs1 [("one", .int x)] (pth (le 1) [0, 0]) σ = some (abI x, σ, []) := by kernel_rfl
theorem CS_1 (ρ : Loc) : CS (wd w mean mg mb) csW (clW c) ρ (scO (pth (le 1) [0])) cs1 [] [] where
  rel := fun qual L f cdv => by kernel_rfl
  clos := fun qual L f cdv => by kernel_rfl
  kd := by kernel_rfl
  cell := by decide +kernel
  nms := by decide +kernel
  lr := fun I D m h x pv e => by cases e
theorem abs_loop (us : PO) : ∀ (todo don : List Int) (ρ : Loc), (ρ = [] ∨ ∃ x : Int, ρ = ([("one", PV.int x)] : Loc)) → don.length + todo.length ≤ 1000 →
    LCOK (wd w mean mg mb) cs1 (.Name "one" (pp 1 [0, 1])) (pth (le 1) [0, 0]) 2 3 ρ [us, .list ((don ++ todo).map .int), .liter 1 don.length, .list (don.map abI)] [us, .list ((don ++ todo).map .int), .any, .list ((don ++ todo).map abI)]
  | [], don, ρ, hρ, hl => by
    have e : NxtEnd [us, .list ((don ++ []).map .int), .liter 1 don.length, .list (don.map abI)] 2 _ := .list (i := 1) (l := (don ++ []).map .int) (by simp) rfl
    have := LCOK.stop (W := (wd w mean mg mb)) (cs' := cs1) (target := .Name "one" (pp 1 [0, 1])) (elt := pth (le 1) [0, 0]) (k := 3) (ρ := ρ) e
    simpa using this
  | x :: todo, don, ρ, hρ, hl => by
    have ih := abs_loop us todo (don ++ [x]) [("one", .int x)] (.inr ⟨x, rfl⟩) (by simp at hl ⊢; omega)
    have el : don ++ [x] ++ todo = don ++ x :: todo := by simp
    rw [el, List.length_append, List.length_singleton] at ih
    refine LCOK.next (pv := .int x) (q := abI x) (ρ₁ := [("one", .int x)]) rfl (.list (i := 1) (n := don.length) (l := (don ++ x :: todo).map .int) rfl rfl (by simp)) ?_ (EOK.ev (el_1 x _) (fun _ h => nomatch h)) (l := don.map abI) rfl (by simp at hl ⊢; omega) ?_
    · rcases hρ with rfl | ⟨y, rfl⟩
      · exact GCOK.name (by kernel_rfl)
      · exact GCOK.name (by kernel_rfl)
    · simpa using ih
end
end Mine
end D23
section D24
namespace Mine
open PM

noncomputable def absI (x : Int) : Int := if x < 0 then -x else x
noncomputable def cellsOf : List Int → List Int
  | [] => [2, 0]
  | [a] => [absI a, 0]
  | a :: b :: _ => [absI a, absI b]
section
variable (w : World) (mean : ExcName → Option Value) (mg mb : Str → Option Value)
variable (c a : Addr)
noncomputable def rhoS (a : Addr) : Loc := [("script", .glo (.ref a)), ("usual", .obj 0)]
noncomputable def rhs1 : PySem.Expr := le 1
theorem nm_script : nameE tab csW (rhoS a) "script" = some (.glo (.ref a)) := by kernel_rfl
theorem nm_len : nameE tab csW (rhoS a) "len" = some (.glo (.builtin "len")) := by kernel_rfl
theorem ev_usual (σ : List PO) : pe tab O1 100 24 csW (rhoS a) (.Name "usual" (pp 1 [1, 0])) σ = some (.obj 0, σ, []) := by kernel_rfl
theorem slice_script {vs : List Value} {ns : List Int} (hi : IntsAre vs ns) (hl : ns.length ≤ 63) {px p2 sp pos : Pos} {kk : Nat} (σ : List PO) :
    XOK (wd w mean mg mb) 24 csW (clW c) (fun h => h.IsList a vs.toArray) (rhoS a) (.Subscript (.Name "script" px) (.Slice none (some (.Constant (.int 2) kk p2)) none sp) pos) σ (.obj σ.length) (σ ++ [.list ((ns.take 2).map .int)]) :=
  XOK.oldSlice (n := 2) (fun h x => x) (nm_script a) (fun I D v V => by cases V; rfl) hi (by omega) (by decide)
theorem comp_1 {vs : List Value} {ns : List Int} (hi : IntsAre vs ns) (hl : ns.length ≤ 63) (us : PO) :
    XOK (wd w mean mg mb) 24 csW (clW c) (fun h => h.IsList a vs.toArray) (rhoS a) (.ListComp (pth (le 1) [0, 0]) [⟨.Name "one" (pp 1 [0, 1]), .Subscript (.Name "script" (pp 1 [0, 2, 0])) (.Slice none (some (.Constant (.int 2) (pk 1 [0, 2, 1, 0]) (pp 1 [0, 2, 1, 0]))) none (pp 1 [0, 2, 1])) (pp 1 [0, 2]), [], 0⟩] (scO (pth (le 1) [0])) (pp 1 [0]))
      [us] (.obj 3) [us, .list ((ns.take 2).map .int), .any, .list ((ns.take 2).map abI)] := by
  have h := XOK.compList (pos := pp 1 [0]) (elt := pth (le 1) [0, 0]) (target := .Name "one" (pp 1 [0, 1])) (CS_1 w mean mg mb c (rhoS a)) (slice_script w mean mg mb c a hi hl (px := pp 1 [0, 2, 0]) (p2 := pp 1 [0, 2, 1, 0]) (sp := pp 1 [0, 2, 1]) (pos := pp 1 [0, 2]) (kk := pk 1 [0, 2, 1, 0]) [us])
    (l := (ns.take 2).map .int) rfl (fun _ _ => rfl) (abs_loop w mean mg mb us (ns.take 2) [] [] (.inl rfl) (by simp; omega))
  exact h
theorem rhs_ok {vs : List Value} {ns : List Int} (hi : IntsAre vs ns) (hl : ns.length ≤ 63) : ∃ σ₁, σ₁[6]? = some (.list ((cellsOf ns).map .int)) ∧
    XOK (wd w mean mg mb) 24 csW (clW c) (fun h => h.IsList a vs.toArray) (rhoS a) (.BinOp (.ListComp (pth (le 1) [0, 0]) [⟨.Name "one" (pp 1 [0, 1]), .Subscript (.Name "script" (pp 1 [0, 2, 0])) (.Slice none (some (.Constant (.int 2) (pk 1 [0, 2, 1, 0]) (pp 1 [0, 2, 1, 0]))) none (pp 1 [0, 2, 1])) (pp 1 [0, 2]), [], 0⟩] (scO (pth (le 1) [0])) (pp 1 [0])) .Add
    (.Subscript (.Name "usual" (pp 1 [1, 0])) (.Slice (some (.Call (.Name "len" (pp 1 [1, 1, 0, 0])) [.Subscript (.Name "script" (pp 1 [1, 1, 0, 1, 0])) (.Slice none (some (.Constant (.int 2) (pk 1 [1, 1, 0, 1, 1, 0]) (pp 1 [1, 1, 0, 1, 1, 0]))) none (pp 1 [1, 1, 0, 1, 1])) (pp 1 [1, 1, 0, 1])] [] (pp 1 [1, 1, 0]))) none none (pp 1 [1, 1])) (pp 1 [1])) (pp 1 []))
      [.list [.int 2, .int 0]] (.obj 6) σ₁ := by
  have lc := comp_1 w mean mg mb c a hi hl (.list [.int 2, .int 0])
  have sl := slice_script w mean mg mb c a hi hl (px := pp 1 [1, 1, 0, 1, 0]) (p2 := pp 1 [1, 1, 0, 1, 1, 0]) (sp := pp 1 [1, 1, 0, 1, 1]) (pos := pp 1 [1, 1, 0, 1]) (kk := pk 1 [1, 1, 0, 1, 1, 0]) [.list [.int 2, .int 0], .list ((ns.take 2).map .int), .any, .list ((ns.take 2).map abI)]
  have us := XOK.of (cl := clW c) (P := fun h => h.IsList a vs.toArray) (EOK.ev (W := (wd w mean mg mb)) (ev_usual a [.list [.int 2, .int 0], .list ((ns.take 2).map .int), .any, .list ((ns.take 2).map abI)]) (fun _ h => nomatch h))
  have no : ∀ c ∈ ([] : List Con), c.holds (wd w mean mg mb) := fun _ h => nomatch h
  match ns, hi, hl, lc, sl, us with
  | [], _, _, lc, sl, us => exact ⟨[.list [.int 2, .int 0], .list [], .any, .list [], .list [], .list [.int 2, .int 0], .list [.int 2, .int 0]], by rfl, XOK.add (O := orc0) (C := []) (σ₂ := [.list [.int 2, .int 0], .list [], .any, .list [], .list [], .list [.int 2, .int 0]]) (b := .obj 5) lc (XOK.sliceFrom (O := orc0) (C := []) (σ₂ := [.list [.int 2, .int 0], .list [], .any, .list [], .list []]) (b := .int 0) us (XOK.callB (O := orc0) (C := []) (b := "len") (nm_len a) (by rfl) sl (v := .int 0) (by kernel_rfl) no) (v := .obj 5) (by kernel_rfl) no) (by kernel_rfl) no⟩
  | [x], _, _, lc, sl, us => exact ⟨[.list [.int 2, .int 0], .list [.int x], .any, .list [abI x], .list [.int x], .list [.int 0], .list [abI x, .int 0]], by rfl, XOK.add (O := orc0) (C := []) (σ₂ := [.list [.int 2, .int 0], .list [.int x], .any, .list [abI x], .list [.int x], .list [.int 0]]) (b := .obj 5) lc (XOK.sliceFrom (O := orc0) (C := []) (σ₂ := [.list [.int 2, .int 0], .list [.int x], .any, .list [abI x], .list [.int x]]) (b := .int 1) us (XOK.callB (O := orc0) (C := []) (b := "len") (nm_len a) (by rfl) sl (v := .int 1) (by kernel_rfl) no) (v := .obj 5) (by kernel_rfl) no) (by kernel_rfl) no⟩
  | x :: y :: _, _, _, lc, sl, us => exact ⟨[.list [.int 2, .int 0], .list [.int x, .int y], .any, .list [abI x, abI y], .list [.int x, .int y], .list [], .list [abI x, abI y]], by rfl, XOK.add (O := orc0) (C := []) (σ₂ := [.list [.int 2, .int 0], .list [.int x, .int y], .any, .list [abI x, abI y], .list [.int x, .int y], .list []]) (b := .obj 5) lc (XOK.sliceFrom (O := orc0) (C := []) (σ₂ := [.list [.int 2, .int 0], .list [.int x, .int y], .any, .list [abI x, abI y], .list [.int x, .int y]]) (b := .int 2) us (XOK.callB (O := orc0) (C := []) (b := "len") (nm_len a) (by rfl) sl (v := .int 2) (by kernel_rfl) no) (v := .obj 5) (by kernel_rfl) no) (by kernel_rfl) no⟩
end
end Mine
end D24
section D25
namespace Mine
open PM

theorem strsOf_map : ∀ l : List Str, strsOf (l.map .str) = some l
  | [] => rfl
  | x :: r => by
    show (strsOf (r.map .str)).map (x :: ·) = _
    rw [strsOf_map r]; rfl
theorem dig_01 (c : Int) (i : Nat) : dig c i = 0 ∨ dig c i = 1 := by
  unfold dig
  rw [Int.fmod_eq_emod_of_nonneg _ (by decide)]
  omega
theorem ar_pow {i : Nat} (h : i < 6) : arI .Pow 2 (i : Int) = some (2 ^ i) := by
  match i, h with
  | 0, _ => rfl
  | 1, _ => rfl
  | 2, _ => rfl
  | 3, _ => rfl
  | 4, _ => rfl
  | 5, _ => rfl
theorem ar_div {i : Nat} (h : i < 6) (c : Int) : arI .FloorDiv c (2 ^ i) = some (c.fdiv (2 ^ i)) := by
  match i, h with
  | 0, _ => rfl
  | 1, _ => rfl
  | 2, _ => rfl
  | 3, _ => rfl
  | 4, _ => rfl
  | 5, _ => rfl
theorem wordL_succ (c : Int) (n : Nat) : wordL c (n + 1) = wordL c n ++ [Txt.item "ab" (dig c n)] := by
  unfold wordL; rw [List.range_succ, List.map_append]; rfl
theorem wordL_len (c : Int) (n : Nat) : (wordL c n).length = n := by unfold wordL; simp

section
variable (w : World) (mean : ExcName → Option Value) (mg mb : Str → Option Value)
variable (c : Addr)
noncomputable def Oar (p q d : Int) : Orc := { O1 with ar := fun op _ _ => match op with | .Pow => some p | .FloorDiv => some q | .Mod => some d | _ => none }
noncomputable def rhoC : Loc := [("cells", .obj 0)]
noncomputable def rhoA (x : Int) : Loc := [("cells", .obj 0), ("at", .int x)]
theorem el_2a (c0 c1 x p q : Int) (ri : PO) (acc : List PV) : pe tab (Oar p q 0) 100 0 cs2 (rhoA x) (pth (le 2) [1, 0]) [.list [.int c0, .int c1], ri, .list acc] = some (.str (Txt.item "ab" 0), [.list [.int c0, .int c1], ri, .list acc], [.ar .Pow 2 x p, .ar .FloorDiv c1 p q, .ar .Mod q 2 0]) := by kernel_rfl
theorem el_2b (c0 c1 x p q : Int) (ri : PO) (acc : List PV) : pe tab (Oar p q 1) 100 0 cs2 (rhoA x) (pth (le 2) [1, 0]) [.list [.int c0, .int c1], ri, .list acc] = some (.str (Txt.item "ab" 1), [.list [.int c0, .int c1], ri, .list acc], [.ar .Pow 2 x p, .ar .FloorDiv c1 p q, .ar .Mod q 2 1]) := by kernel_rfl
theorem el_2 (c0 c1 : Int) {i : Nat} (hi : i < 6) (ri : PO) (acc : List PV) : EOK (wd w mean mg mb) 0 cs2 (rhoA i) (pth (le 2) [1, 0]) [.list [.int c0, .int c1], ri, .list acc] (.str (Txt.item "ab" (dig c1 i))) [.list [.int c0, .int c1], ri, .list acc] := by
  have h1 : (Con.ar .Pow 2 (i : Int) (2 ^ i)).holds (wd w mean mg mb) := ar_pow hi
  have h2 : (Con.ar .FloorDiv c1 (2 ^ i) (c1.fdiv (2 ^ i))).holds (wd w mean mg mb) := ar_div hi c1
  rcases dig_01 c1 i with h | h
  · rw [h]
    have h3 : (Con.ar .Mod (c1.fdiv (2 ^ i)) 2 0).holds (wd w mean mg mb) := congrArg some h
    exact EOK.ev (el_2a c0 c1 i (2 ^ i) (c1.fdiv (2 ^ i)) ri acc) (cons_holds h1 (cons_holds h2 (cons_holds h3 nil_holds)))
  · rw [h]
    have h3 : (Con.ar .Mod (c1.fdiv (2 ^ i)) 2 1).holds (wd w mean mg mb) := congrArg some h
    exact EOK.ev (el_2b c0 c1 i (2 ^ i) (c1.fdiv (2 ^ i)) ri acc) (cons_holds h1 (cons_holds h2 (cons_holds h3 nil_holds)))
theorem CS_2 : CS (wd w mean mg mb) csW (clW c) rhoC (scO (pth (le 2) [1])) cs2 [("cells", c)] rhoC where
  rel := fun qual L f cdv => by kernel_rfl
  clos := fun qual L f cdv => by kernel_rfl
  kd := by kernel_rfl
  cell := by decide +kernel
  nms := by decide +kernel
  lr := fun I D m h x pv e => by
    have z := h x pv e
    unfold rhoC at e
    rw [List.lookup_cons] at e
    split at e
    · rename_i q
      obtain rfl : x = "cells" := by simpa using q
      rw [show csW.names.lookup ("cells" : Str) = some .cell by kernel_rfl] at z
      rw [show cs2.names.lookup ("cells" : Str) = some .cell by kernel_rfl]
      exact z
    · cases e
theorem word_loop (c0 c1 : Int) : ∀ (left done : Nat) (ρ : Loc), done + left ≤ 6 → (ρ = rhoC ∨ ∃ x, ρ = rhoA x) →
    LCOK (wd w mean mg mb) cs2 (.Name "at" (pp 2 [1, 1])) (pth (le 2) [1, 0]) 1 2 ρ [.list [.int c0, .int c1], .riter (done : Nat) (left : Nat), .list ((wordL c1 done).map .str)] [.list [.int c0, .int c1], .any, .list ((wordL c1 (done + left)).map .str)]
  | 0, done, ρ, hd, hρ => LCOK.stop (.range (x := (done : Int)) (left := ((0 : Nat) : Int)) rfl (Int.le_refl 0))
  | left + 1, done, ρ, hd, hρ => by
    have ih := word_loop c0 c1 left (done + 1) (rhoA done) (by omega) (.inr ⟨_, rfl⟩)
    rw [show done + 1 + left = done + (left + 1) by omega, wordL_succ, List.map_append] at ih
    refine LCOK.next (pv := .int done) (q := .str (Txt.item "ab" (dig c1 done))) (ρ₁ := rhoA done) (σ₂ := [.list [.int c0, .int c1], .riter ((done : Int) + 1) (((left + 1 : Nat) : Int) - 1), .list ((wordL c1 done).map .str)]) rfl (.range (x := (done : Int)) (left := ((left + 1 : Nat) : Int)) rfl (by omega)) ?_ ?_ (l := (wordL c1 done).map .str) rfl (by rw [List.length_map, wordL_len]; omega) ?_
    · rcases hρ with rfl | ⟨y, rfl⟩
      · exact GCOK.name (by kernel_rfl)
      · exact GCOK.name (by kernel_rfl)
    · exact el_2 w mean mg mb c0 c1 (by omega) _ _
    · have e1 : ((left + 1 : Nat) : Int) - 1 = (left : Nat) := by omega
      have e2 : ((done : Nat) : Int) + 1 = ((done + 1 : Nat) : Int) := by omega
      have := ih
      rw [← e1, ← e2] at this
      exact this
theorem arg_2 (c0 c1 : Int) : pes tab O1 100 24 csW rhoC [pth (le 2) [1, 2, 1]] [.list [.int c0, .int c1]] = some ([.int (1 + c0.fmod 6)], [.list [.int c0, .int c1]], []) := by kernel_rfl
theorem word_ok (P : Heap → Prop) (c0 c1 : Int) : XOK (wd w mean mg mb) 24 csW (clW c) P rhoC (le 2) [.list [.int c0, .int c1]] (.str (Txt.join "" (wordL c1 (1 + (c0.fmod 6).toNat)))) [.list [.int c0, .int c1], .any, .list ((wordL c1 (1 + (c0.fmod 6).toNat)).map .str)] := by
  have h0 : 0 ≤ c0.fmod 6 := by rw [Int.fmod_eq_emod_of_nonneg _ (by decide)]; omega
  have h6 : c0.fmod 6 < 6 := by rw [Int.fmod_eq_emod_of_nonneg _ (by decide)]; omega
  have e : le 2 = .Call (.Attribute (.Constant (.str "") (pk 2 [0, 0]) (pp 2 [0, 0])) "join" (pp 2 [0])) [.ListComp (pth (le 2) [1, 0]) [⟨.Name "at" (pp 2 [1, 1]), .Call (.Name "range" (pp 2 [1, 2, 0])) [pth (le 2) [1, 2, 1]] [] (pp 2 [1, 2]), [], 0⟩] (scO (pth (le 2) [1])) (pp 2 [1])] [] (pp 2 []) := by kernel_rfl
  have hw := word_loop w mean mg mb c0 c1 (1 + (c0.fmod 6).toNat) 0 rhoC (by omega) (.inl rfl)
  rw [Nat.zero_add] at hw
  have e2 : ((1 + (c0.fmod 6).toNat : Nat) : Int) = 1 + c0.fmod 6 := by omega
  rw [e2] at hw
  have hc := XOK.compRange (k := 24) (P := P) (pr := pp 2 [1, 2, 0]) (cpos := pp 2 [1, 2]) (pos := pp 2 [1]) (CS_2 w mean mg mb c) (show nameE tab csW rhoC "range" = some (.glo (.type "range")) by kernel_rfl) (by kernel_rfl) (LOK.ev (arg_2 c0 c1) nil_holds) (by omega) (by omega) (fun _ _ => rfl) hw
  have hj := XOK.join (apos := pp 2 [0]) (pos := pp 2 []) (p0 := pp 2 [0, 0]) (kk := pk 2 [0, 0]) hc rfl (strsOf_map (wordL c1 (1 + (c0.fmod 6).toNat))) (fun a ha => ?_) (by rw [wordL_len]; omega) rfl (by kernel_rfl)
  · rw [← e] at hj
    exact hj
  · obtain ⟨i, _, rfl⟩ := List.mem_map.mp ha
    exact Nat.le_trans (Nat.le_of_eq rfl) (show 1 ≤ 10 by decide)
end
end Mine
end D25
section D26
namespace Mine
open PM

noncomputable def img (ch : Nat) : Str := match ch == 97 with | true => "ab" | false => "ba"
noncomputable def imgs (x : Str) : List Str := x.cps.toList.map img
theorem sign_eq (ch : Nat) : ((⟨#[ch]⟩ : Str) == "a") = (ch == 97) := by
  have e : ("a" : Str) = ⟨#[97]⟩ := by kernel_rfl
  rw [e]
  by_cases h : ch = 97
  · subst h; rfl
  · have h1 : (ch == 97) = false := by simpa using h
    rw [h1]
    refine beq_eq_false_iff_ne.mpr fun q => h ?_
    have := congrArg Str.cps q
    simpa using this
theorem paired_strs {W : Wd} {I : Led} {D : List Addr} : ∀ {vs ys : List Value} {cs : List Nat}, Paired (fun v y => ∃ ch u t, v = Value.str ⟨#[ch]⟩ u ∧ y = Value.str (img ch) t) vs ys → (vs.length = cs.length) → (∀ (j : Nat) v, vs[j]? = some v → ∃ ch u, cs[j]? = some ch ∧ v = .str ⟨#[ch]⟩ u) → VRs W.K I D ys (cs.map fun ch => .str (img ch))
  | _, _, cs, .nil, hl, _ => by
    cases cs with
    | nil => exact .nil
    | cons => cases hl
  | _, _, [], .cons _ _, hl, _ => by cases hl
  | _, _, ch :: cs, .cons (a := v) (b := y) h r, hl, hp => by
    obtain ⟨ch', u, e1, e2⟩ := hp 0 v rfl
    cases e1
    obtain ⟨ch2, u2, t, e3, rfl⟩ := h
    rw [e2] at e3
    cases e3
    exact .cons (.str _ _) (paired_strs r (by simpa using hl) fun j v hv => hp (j + 1) v (by simpa using hv))

section
variable (w : World) (mean : ExcName → Option Value) (mg mb : Str → Option Value)
variable (c : Addr)
theorem image_comp {P : Heap → Prop} {ρ : Loc} {x : Str} (σ : List PO) (hw : nameE tab csW ρ "word" = some (.str x)) (hz : x.cps.size ≤ 10000) :
    XOK (wd w mean mg mb) 24 csW (clW c) P ρ (.ListComp (pth (le 3) [1, 0]) [⟨.Name "sign" (pp 3 [1, 1]), .Name "word" (pp 3 [1, 2]), [], 0⟩] (scO (pth (le 3) [1])) (pp 3 [1])) σ (.obj σ.length) (σ ++ [.list ((imgs x).map .str)]) := by
  intro A env h₀ L m D I s hP xc F S lr Q hR
  have ec := xc.ec (D := D) (I := I) lr
  obtain ⟨qual, f, cdv, rfl⟩ := xc.sh
  refine wpAny_ListComp_free (cl := []) (fun _ => true) (fun v y => ∃ ch u t, v = Value.str ⟨#[ch]⟩ u ∧ y = Value.str (img ch) t) (by kernel_rfl) (by decide +kernel) (by kernel_rfl) (by decide +kernel) (by kernel_rfl) ?_ (fun _ => rfl)
  refine ec.nm _ _ hw (pp 3 [1, 2]) s σ D I Ext.refl F S _ fun v V => ?_
  cases V with
  | str _ t =>
  refine wpAny_pyIter_str fun o Stt hW hst => ?_
  refine ⟨_, _, _, _, _, _, rfl, hW A xc.hh, le_line hz, hst, fun b hb => ?_, ⟨?_, ?_⟩, ?_⟩
  · rw [List.mem_singleton.mp hb, Heap.size_push]; exact Nat.lt_succ_self _
  · intro C i v s₃ m₃ E' hC hv hn hm hk htk
    exact wpAny_pure ⟨rfl, _, _, rfl, fun _ _ e => e⟩
  · intro C i v s₃ m₃ E' hC hv _ hn hm hk htk
    obtain ⟨ch, u, he, rfl⟩ := hv
    rw [law_3e]
    refine IfExp_ (wpAny_isTrue_Compare1 (wpAny_Name (wpAny_loadName_local (by kernel_rfl) (by kernel_rfl) hn hm (Calls.Constant_str (eq_str ?_))) (by kernel_rfl)) (by kernel_rfl))
    rw [sign_eq]
    cases hch : ch == 97 with
    | true => exact wpAny_truthy_bool (Calls.Constant_str ⟨⟨ch, u, _, rfl, by unfold img; rw [hch]⟩, _, _, rfl, fun _ _ e => e⟩)
    | false => exact wpAny_truthy_bool (Calls.Constant_str ⟨⟨ch, u, _, rfl, by unfold img; rw [hch]⟩, _, _, rfl, fun _ _ e => e⟩)
  · intro D' h' tk ys vs hD hl hpl hlen hPv hF hk
    obtain ⟨n, hpl⟩ := hpl
    have up : ∀ b o, s.heap.get? b = some o → h'.get? b = some o := fun b o e => hk b o (by
      intro q; rw [List.mem_singleton.mp q] at e; exact absurd (Heap.lt_size e) (Nat.lt_irrefl _)) (Heap.get?_push_of_some _ e)
    have hD0 : ∀ b o, s.heap.get? b = some o → b ≠ D' := fun b o e q => by
      rw [← q, Heap.get?_push_of_some _ e] at hD; cases hD
    obtain ⟨os, N, Os, nd, ap⟩ := S
    have F' : Fr h₀ L h' m := Fr.keeps F up
    have N' : News h₀ L h' ((D', listOf ys n) :: (D.zip os ++ I)) := by
      intro p hp
      rcases List.mem_cons.mp hp with rfl | hp
      · refine ⟨hpl, ?_, ?_⟩
        · obtain ⟨oL, _, _, hL, _⟩ := F.ns
          exact (hD0 _ _ hL).symm
        · cases q : h₀.get? D' with
          | none => rfl
          | some o => exact absurd rfl (hD0 _ _ (F.keep _ _ q))
      · exact ⟨up _ _ (N p hp).1, (N p hp).2⟩
    have offD : ∀ a ∈ D, a ≠ D' := fun a ha => by
      obtain ⟨i, hi, e⟩ := List.getElem_of_mem ha
      have h1 : D[i]? = some a := by rw [List.getElem?_eq_getElem hi, e]
      have hl := Os.len.1
      have h2 : os[i]? = some os[i] := by rw [List.getElem?_eq_getElem (by omega)]
      exact hD0 _ _ (N _ (List.mem_append_left _ (mem_zip_get h1 h2))).1
    have offI : ∀ p ∈ I, p.1 ≠ D' := fun p hp => hD0 _ _ (N p (List.mem_append_right _ hp)).1
    have rr : VRs (wd w mean mg mb).K I (D ++ [D']) ys.toList ((imgs x).map .str) := by
      have := paired_strs (W := wd w mean mg mb) (I := I) (D := D ++ [D']) (cs := x.cps.toList) (by rw [List.filter_eq_self.mpr (by simp)] at hF; exact hF) (by rw [hlen]; simp) (fun j v hv => by
        obtain ⟨ch, u, a, b⟩ := hPv j v hv
        exact ⟨ch, u, by simpa using a, b⟩)
      unfold imgs
      rw [List.map_map]
      exact this
    refine hR (.ref D') h' tk (D ++ [D']) I F' (St.more_of Os nd ap offD offI ?_ N') Ext.snoc (.obj (by rw [← Os.len.2]; exact get_snoc))
    have e : listOf ys n = listOf ys.toList.toArray n := by simp
    rw [e]
    exact .list rr
end
end Mine
end D26
section D27
namespace Mine
open PM

noncomputable def rhoW (x : Str) : Loc := [("cells", .obj 0), ("word", .str x)]
noncomputable def rhoI (x y : Str) : Loc := [("cells", .obj 0), ("word", .str x), ("image", .str y)]
noncomputable def rhoF (x y z : Str) : Loc := [("cells", .obj 0), ("word", .str x), ("image", .str y), ("figures", .str z)]
noncomputable def rho0 (x y z : Str) : Loc := [("word", .str x), ("image", .str y), ("figures", .str z)]
noncomputable def figs (x : Str) : List Str := ((Txt.split x "a").drop (kms_lo (some 1) (Txt.split x "a").length)).take (kms_hi (some (-1)) (Txt.split x "a").length - kms_lo (some 1) (Txt.split x "a").length)
noncomputable def figT (p : Str) : Str := (toString (p.length : Int) : String)
section
variable (w : World) (mean : ExcName → Option Value) (mg mb : Str → Option Value)
variable (c : Addr)
theorem image_ok (P : Heap → Prop) (x : Str) (p0 p1 p2 : PO) (hz : x.cps.size ≤ 10000) : XOK (wd w mean mg mb) 24 csW (clW c) P (rhoW x) (le 3) [p0, p1, p2] (.str (Txt.join "" (imgs x))) [p0, p1, p2, .list ((imgs x).map .str)] := by
  have e : le 3 = .Call (.Attribute (.Constant (.str "") (pk 3 [0, 0]) (pp 3 [0, 0])) "join" (pp 3 [0])) [.ListComp (pth (le 3) [1, 0]) [⟨.Name "sign" (pp 3 [1, 1]), .Name "word" (pp 3 [1, 2]), [], 0⟩] (scO (pth (le 3) [1])) (pp 3 [1])] [] (pp 3 []) := by kernel_rfl
  have hc := image_comp w mean mg mb c (P := P) (ρ := rhoW x) (x := x) [p0, p1, p2] (by kernel_rfl) hz
  have hj := XOK.join (apos := pp 3 [0]) (pos := pp 3 []) (p0 := pp 3 [0, 0]) (kk := pk 3 [0, 0]) hc rfl (strsOf_map (imgs x)) (fun a ha => ?_) (by unfold imgs; simpa using hz) rfl (by kernel_rfl)
  · rw [← e] at hj; exact hj
  · obtain ⟨ch, _, rfl⟩ := List.mem_map.mp ha
    unfold img
    split <;> decide +kernel

theorem el_4 (p : Str) (σ : List PO) : pe tab O1 100 0 cs4 [("part", .str p)] (pth (le 4) [1, 0]) σ = some (.str (figT p), σ, [.le p.length 10000, .le (p.length : Int).natAbs 10000]) := by kernel_rfl
theorem CS_4 (ρ : Loc) : CS (wd w mean mg mb) csW (clW c) ρ (scO (pth (le 4) [1])) cs4 [] [] where
  rel := fun qual L f cdv => by kernel_rfl
  clos := fun qual L f cdv => by kernel_rfl
  kd := by kernel_rfl
  cell := by decide +kernel
  nms := by decide +kernel
  lr := fun I D m h x pv e => by cases e
theorem fig_loop (p0 p1 p2 p3 p4 : PO) : ∀ (todo don : List Str) (ρ : Loc), (ρ = [] ∨ ∃ x : Str, ρ = ([("part", PV.str x)] : Loc)) → (∀ a ∈ todo, a.length ≤ 10000) → don.length + todo.length ≤ 1000 →
    LCOK (wd w mean mg mb) cs4 (.Name "part" (pp 4 [1, 1])) (pth (le 4) [1, 0]) 6 7 ρ [p0, p1, p2, p3, p4, .list ((don ++ todo).map .str), .liter 5 don.length, .list ((don.map figT).map .str)] [p0, p1, p2, p3, p4, .list ((don ++ todo).map .str), .any, .list (((don ++ todo).map figT).map .str)]
  | [], don, ρ, hρ, hs, hl => by
    have e : NxtEnd [p0, p1, p2, p3, p4, .list ((don ++ []).map .str), .liter 5 don.length, .list ((don.map figT).map .str)] 6 _ := .list (i := 5) (l := (don ++ []).map .str) (by simp) rfl
    have := LCOK.stop (W := (wd w mean mg mb)) (cs' := cs4) (target := .Name "part" (pp 4 [1, 1])) (elt := pth (le 4) [1, 0]) (k := 7) (ρ := ρ) e
    simpa using this
  | x :: todo, don, ρ, hρ, hs, hl => by
    have ih := fig_loop p0 p1 p2 p3 p4 todo (don ++ [x]) [("part", .str x)] (.inr ⟨x, rfl⟩) (fun a ha => hs a (.tail _ ha)) (by simp at hl ⊢; omega)
    have el : don ++ [x] ++ todo = don ++ x :: todo := by simp
    rw [el, List.length_append, List.length_singleton] at ih
    have hx := hs x (.head _)
    refine LCOK.next (pv := .str x) (q := .str (figT x)) (ρ₁ := [("part", .str x)]) rfl (.list (i := 5) (n := don.length) (l := (don ++ x :: todo).map .str) rfl rfl (by simp)) ?_ (EOK.ev (el_4 x _) (cons_holds (le_holds hx) (cons_holds (le_holds (by simpa using hx)) nil_holds))) (l := (don.map figT).map .str) rfl (by simp at hl ⊢; omega) ?_
    · rcases hρ with rfl | ⟨y, rfl⟩
      · exact GCOK.name (by kernel_rfl)
      · exact GCOK.name (by kernel_rfl)
    · simpa using ih
theorem it_4 (x y : Str) (p0 p1 p2 p3 : PO) : pe tab O1 100 24 csW (rhoI x y) (pth (le 4) [1, 2]) [p0, p1, p2, p3] = some (.obj 5, [p0, p1, p2, p3, .list ((Txt.split x "a").map .str),
    .list ((((Txt.split x "a").map PV.str).drop (kms_lo (some 1) ((Txt.split x "a").map PV.str).length)).take (kms_hi (some (-1)) ((Txt.split x "a").map PV.str).length - kms_lo (some 1) ((Txt.split x "a").map PV.str).length))], [.le x.length 10000, .le ((Txt.split x "a").map PV.str).length 10000]) := by kernel_rfl
theorem figures_ok (P : Heap → Prop) (x y : Str) (p0 p1 p2 p3 : PO) (hx : x.length ≤ 10000) (hn : (Txt.split x "a").length ≤ 1000) (hs : ∀ a ∈ figs x, a.length ≤ 10000) (ht : ∀ a ∈ (figs x).map figT, a.length ≤ 10) :
    XOK (wd w mean mg mb) 24 csW (clW c) P (rhoI x y) (le 4) [p0, p1, p2, p3] (.str (Txt.join "" ((figs x).map figT))) [p0, p1, p2, p3, .list ((Txt.split x "a").map .str), .list ((figs x).map .str), .any, .list (((figs x).map figT).map .str)] := by
  have e : le 4 = .Call (.Attribute (.Constant (.str "") (pk 4 [0, 0]) (pp 4 [0, 0])) "join" (pp 4 [0])) [.ListComp (pth (le 4) [1, 0]) [⟨.Name "part" (pp 4 [1, 1]), pth (le 4) [1, 2], [], 0⟩] (scO (pth (le 4) [1])) (pp 4 [1])] [] (pp 4 []) := by kernel_rfl
  have ev := it_4 x y p0 p1 p2 p3
  have ef : (((Txt.split x "a").map PV.str).drop (kms_lo (some 1) ((Txt.split x "a").map PV.str).length)).take (kms_hi (some (-1)) ((Txt.split x "a").map PV.str).length - kms_lo (some 1) ((Txt.split x "a").map PV.str).length) = (figs x).map .str := by
    unfold figs
    rw [List.length_map, List.map_take, List.map_drop]
  rw [ef] at ev
  have hlen : (figs x).length ≤ 1000 := by
    unfold figs
    rw [List.length_take, List.length_drop]; omega
  have hi := XOK.of (cl := clW c) (P := P) (EOK.ev (W := (wd w mean mg mb)) ev (cons_holds (le_holds hx) (cons_holds (le_holds (by rw [List.length_map]; omega)) nil_holds)))
  have lp := fig_loop w mean mg mb p0 p1 p2 p3 (.list ((Txt.split x "a").map .str)) (figs x) [] [] (.inl rfl) hs (by simpa using hlen)
  have hc := XOK.compList (pos := pp 4 [1]) (elt := pth (le 4) [1, 0]) (target := .Name "part" (pp 4 [1, 1])) (CS_4 w mean mg mb c (rhoI x y)) hi (l := (figs x).map .str) rfl (fun _ _ => by kernel_rfl) lp
  have hj := XOK.join (apos := pp 4 [0]) (pos := pp 4 []) (p0 := pp 4 [0, 0]) (kk := pk 4 [0, 0]) hc rfl (strsOf_map ((figs x).map figT)) ht (by rw [List.length_map]; omega) rfl (by kernel_rfl)
  rw [← e] at hj
  exact hj
end
end Mine
end D27
section D28
namespace Mine
open PM

noncomputable def rho5 (x y z : Str) : Loc := [("word", .str x), ("image", .str y), ("figures", .str z), ("again", (Nd.delay .x).pv .a), ("sign", (Nd.now .len1 .c).pv .a)]
noncomputable def rho6 (x y z : Str) : Loc := [("word", .str x), ("image", .str y), ("figures", .str z), ("again", (Nd.delay .x).pv .a), ("sign", (Nd.now .len1 .c).pv .a), ("same", (Nd.delay .c).pv .a), ("some", (Nd.now .arb .x).pv .a)]
noncomputable def rho7 (x y z : Str) : Loc := rho6 x y z ++ ([("told", .obj 10)] : Loc)
noncomputable def rho8 (x y z : Str) : Loc := rho7 x y z ++ ([("other", .obj 22)] : Loc)
noncomputable def rho9 (x y z : Str) : Loc := rho8 x y z ++ ([("part", (Nd.now (.cat .len1 .arb) .x).pv .c)] : Loc)
noncomputable def rho10 (x y z : Str) : Loc := rho9 x y z ++ ([("squares", .obj 35)] : Loc)
noncomputable def pv5 : List PV := pat5.map (Nd.pv .a)
noncomputable def pv2 : List PV := pat2.map (Nd.pv .c)
noncomputable def u1 : Nat → PO
  | 2 => .list pv5
  | 50 => .list pv5.reverse
  | _ => .any
section
variable (s1 : Int) (v1 : List (Str × PV)) (l1 f1 : List PV) (h1 : List (Str × PV)) (s2 : Int) (v2 : List (Str × PV)) (l2 f2 : List PV) (h2 : List (Str × PV))
noncomputable def st1 : List PO := stf .a u1 s1 v1 l1 f1 h1 [.any, .any]
noncomputable def u2 : Nat → PO := fun i => match i == 50 with
  | true => PO.list pv5.reverse
  | false => match i == 51 with
    | true => PO.any
    | false => (st1 s1 v1 l1 f1 h1 ++ ([.list pv5] : List PO)).getD i PO.any
noncomputable def st2 : List PO := stf .b (u2 s1 v1 l1 f1 h1) s2 v2 l2 f2 h2 [.any, .any]
noncomputable def u3 : Nat → PO := fun i => match i == 50 with
  | true => PO.list pv2.reverse
  | false => match i == 51 with
    | true => PO.any
    | false => (st2 s1 v1 l1 f1 h1 s2 v2 l2 f2 h2 ++ ([refO "X", .list pv2] : List PO)).getD i PO.any
variable (x y z : Str) (σ' : List PO)
set_option maxHeartbeats 0
theorem px_5 : px tab O1 100 24 csW (rho0 x y z) (bd 423 5) [] = some ((.next, rho5 x y z), [refO "C"], []) := by kernel_rfl
theorem px_6 : px tab O1 100 24 csW (rho5 x y z) (bd 423 6) [refO "C"] = some ((.next, rho6 x y z), [refO "C", refO "X"], []) := by kernel_rfl
theorem px_7 : px tab (Ocall 418 (.obj 10) σ') 100 24 csW (rho6 x y z) (bd 423 7) [refO "C", refO "X"] = some ((.next, rho7 x y z), σ', [.call 24 418 [.obj 2, .str x] (Lay.a.pre u1) (.obj 10) σ']) := by kernel_rfl
theorem px_8 : px tab (Ocall 418 (.obj 22) σ') 100 24 csW (rho7 x y z) (bd 423 8) (st1 s1 v1 l1 f1 h1) = some ((.next, rho8 x y z), σ', [.call 24 418 [.obj 14, .str y] (Lay.b.pre (u2 s1 v1 l1 f1 h1)) (.obj 22) σ']) := by kernel_rfl
theorem px_9 : px tab O1 100 24 csW (rho8 x y z) (bd 423 9) (st2 s1 v1 l1 f1 h1 s2 v2 l2 f2 h2) = some ((.next, rho9 x y z), st2 s1 v1 l1 f1 h1 s2 v2 l2 f2 h2 ++ [refO "X"], []) := by kernel_rfl
theorem px_10 : px tab (Ocall 418 (.obj 35) σ') 100 24 csW (rho9 x y z) (bd 423 10) (st2 s1 v1 l1 f1 h1 s2 v2 l2 f2 h2 ++ [refO "X"]) = some ((.next, rho10 x y z), σ', [.call 24 418 [.obj 27, .str z] (Lay.c.pre (u3 s1 v1 l1 f1 h1 s2 v2 l2 f2 h2)) (.obj 35) σ']) := by kernel_rfl
end

theorem ltS_app (n : Nat) : ∀ a b : List PO, ltS n (a ++ b) = (ltS n a && ltS n b)
  | [], b => rfl
  | p :: a, b => by
    show (p.lt n && ltS n (a ++ b)) = ((p.lt n && ltS n a) && ltS n b)
    rw [ltS_app n a b, Bool.and_assoc]
theorem getD_lt {n : Nat} : ∀ {l : List PO} {i : Nat}, ltS n l = true → (l.getD i .any).lt n = true
  | [], _, _ => by simp [PO.lt]
  | p :: l, 0, h => (Bool.and_eq_true_iff.mp h).1
  | p :: l, i + 1, h => by simpa using getD_lt (l := l) (i := i) (Bool.and_eq_true_iff.mp h).2
theorem lt_ents (n : Nat) : ∀ l : List Ent, ltL n (entsPV l) = true
  | [] => rfl
  | e :: l => by rw [← ents_cons, lt_app, lt_ents n l]; rfl
theorem lt_hv (n : Nat) (h : HV) : ltA n h.pv = true := by cases h <;> rfl
theorem lt_stf (n : Nat) (y : Lay) (hn : y.n + 10 ≤ n) (u : Nat → PO) (st : Nat) (vals log : List Ev) (f : List Ent) (h : HV) (rest : List PO) (hu : ∀ i, (u i).lt n = true) (hr : ltS n rest = true) : ltS n (stf y u st (valsPV vals) (logPV log) (entsPV f) h.pv rest) = true := by
  have hv : (PO.dict (valsPV vals)).lt n = true := lt_vals _ _
  have hl : (PO.list (logPV log)).lt n = true := lt_log _ _
  have hf : (PO.list (entsPV f)).lt n = true := lt_ents _ _
  have hh : (PO.dict h.pv).lt n = true := lt_hv _ _
  have hj : ∀ k : Str, (refO k).lt n = true := fun k => rfl
  have b : ∀ i, i ≤ 6 → Nat.blt (y.n + i) n = true := fun i hi => by simp [Nat.blt_eq]; omega
  have ha : (PO.attrs [("values", .obj (y.n + 3)), ("limit", .int 99999), ("refused", .obj (y.n + 4)), ("width", .int 64), ("steps", .int st), ("log", .obj (y.n + 6))]).lt n = true := by
    simp only [PO.lt, ltA, PV.lt, b 3 (by omega), b 4 (by omega), b 6 (by omega)]; rfl
  have hp : ltS n (y.pre u) = true := by
    cases y <;> simp only [Lay.pre, ltS, hj, hu, Bool.and_self]
  unfold stf
  rw [ltS_app, hp]
  simp only [ltS, hj, hu, hv, ha, hl, hf, hh, hr, Bool.and_self, Bool.true_and]
  rfl
theorem u1_lt (n : Nat) (hn : 2 ≤ n) : ∀ i, (u1 i).lt n = true := by
  have b0 : Nat.blt 0 n = true := by simp [Nat.blt_eq]; omega
  have b1 : Nat.blt 1 n = true := by simp [Nat.blt_eq]; omega
  intro i
  unfold u1
  split
  · simp only [PO.lt, pv5, pat5, List.map, Nd.pv, Lay.ref, ltL, PV.lt, b0, b1, Bool.and_self]
  · simp only [PO.lt, pv5, pat5, List.map, Nd.pv, Lay.ref, List.reverse, List.reverseAux, ltL, PV.lt, b0, b1, Bool.and_self]
  · rfl

noncomputable def sk (u : Nat → PO) (a b c : List PV) : List PO := ([u 0, u 1, u 2, u 3, u 4, u 5, u 6, u 7, u 8, u 9] : List PO) ++ ([.list a, u 11, u 12, u 13, u 14, u 15, u 16, u 17, u 18, u 19, u 20, u 21] : List PO) ++ ([.list b, u 23, u 24, u 25, u 26, u 27, u 28, u 29, u 30, u 31, u 32, u 33, u 34] : List PO) ++ ([.list c, u 36, u 37, u 38] : List PO)
/-- what a word must answer -/
structure Runs (parts : List Nd) (t : Str) (f : List Ent) : Prop where
  ht : t.length ≤ 10000
  ex : ∃ st vals log h, runAll t 1000 (patOf parts) (t.length + 1) 0 0 [] [] = some (st, vals, log) ∧ tellAll log.reverse (.h0 "") [] = some (h, f)

section
variable (w : World) (mean : ExcName → Option Value) (mg mb : Str → Option Value)
variable (c : Addr) (P : Heap → Prop)
set_option maxHeartbeats 0 in
theorem calls_ok {x y z : Str} {fx fy fz : List Ent} {b : Bool} (rx : Runs pat5 x fx) (ry : Runs pat5 y fy) (rz : Runs pat2 z fz)
    (tail : ∀ (u : Nat → PO), TSS (wd w mean mg mb) 24 csW (clW c) P (rho10 x y z) [bd 423 11, bd 423 12, bd 423 13, bd 423 14, bd 423 15] (sk u (entsPV fx) (entsPV fy) (entsPV fz)) b) :
    TSS (wd w mean mg mb) 24 csW (clW c) P (rho0 x y z) [bd 423 5, bd 423 6, bd 423 7, bd 423 8, bd 423 9, bd 423 10, bd 423 11, bd 423 12, bd 423 13, bd 423 14, bd 423 15] [] b := by
  obtain ⟨hx, sx, vx, lx, hx', ex, ex'⟩ := rx
  obtain ⟨hy, sy, vy, ly, hy', ey, ey'⟩ := ry
  obtain ⟨hz, sz, vz, lz, hz', ez, ez'⟩ := rz
  have k1 : COK (wd w mean mg mb) 24 418 [.obj 2, .str x] (Lay.a.pre u1) (.obj 10) (st1 sx (valsPV vx) (logPV lx) (entsPV fx) hx'.pv) :=
    told_ok w mean mg mb .a u1 x pat5 (by simp [pat5]) (by decide) (by kernel_rfl) (by kernel_rfl) (by kernel_rfl) (u1_lt 13 (by decide)) hx ex ex'
  have l1 : ∀ n, 25 ≤ n → ∀ i, (u2 sx (valsPV vx) (logPV lx) (entsPV fx) hx'.pv i).lt n = true := by
    intro n hn i
    have hu := u1_lt n (by omega)
    have h5 := hu 2
    have h50 := hu 50
    unfold u2
    split
    · exact h50
    · split
      · rfl
      · refine getD_lt ?_
        rw [ltS_app]
        unfold st1
        rw [lt_stf n .a (by show 13 ≤ n; omega) u1 sx vx lx fx hx' [.any, .any] hu rfl]
        show (true && ((u1 2).lt n && true)) = true
        rw [h5]; rfl
  have k2 : COK (wd w mean mg mb) 24 418 [.obj 14, .str y] (Lay.b.pre (u2 sx (valsPV vx) (logPV lx) (entsPV fx) hx'.pv)) (.obj 22) (st2 sx (valsPV vx) (logPV lx) (entsPV fx) hx'.pv sy (valsPV vy) (logPV ly) (entsPV fy) hy'.pv) :=
    told_ok w mean mg mb .b _ y pat5 (by simp [pat5]) (by decide) (by kernel_rfl) (by kernel_rfl) (by kernel_rfl) (l1 25 (by decide)) hy ey ey'
  have l2 : ∀ i, (u3 sx (valsPV vx) (logPV lx) (entsPV fx) hx'.pv sy (valsPV vy) (logPV ly) (entsPV fy) hy'.pv i).lt 38 = true := by
    intro i
    unfold u3
    split
    · rfl
    · split
      · rfl
      · refine getD_lt ?_
        rw [ltS_app]
        unfold st2
        rw [lt_stf 38 .b (by decide) _ sy vy ly fy hy' [.any, .any] (l1 38 (by decide)) rfl]
        rfl
  have k3 : COK (wd w mean mg mb) 24 418 [.obj 27, .str z] (Lay.c.pre (u3 sx (valsPV vx) (logPV lx) (entsPV fx) hx'.pv sy (valsPV vy) (logPV ly) (entsPV fy) hy'.pv)) (.obj 35) (stf .c (u3 sx (valsPV vx) (logPV lx) (entsPV fx) hx'.pv sy (valsPV vy) (logPV ly) (entsPV fy) hy'.pv) sz (valsPV vz) (logPV lz) (entsPV fz) hz'.pv [.any, .any]) :=
    told_ok w mean mg mb .c _ z pat2 (by simp [pat2]) (by decide) (by kernel_rfl) (by kernel_rfl) (by kernel_rfl) l2 hz ez ez'
  refine TSS.cons (SOK.ev (px_5 x y z) nil_holds) (TSS.cons (SOK.ev (px_6 x y z) nil_holds) ?_)
  refine TSS.cons (SOK.ev (px_7 x y z _) (cons_holds k1 nil_holds)) ?_
  refine TSS.cons (SOK.ev (px_8 _ _ _ _ _ x y z _) (cons_holds k2 nil_holds)) ?_
  refine TSS.cons (SOK.ev (px_9 _ _ _ _ _ _ _ _ _ _ x y z) nil_holds) ?_
  refine TSS.cons (SOK.ev (px_10 _ _ _ _ _ _ _ _ _ _ x y z _) (cons_holds k3 nil_holds)) ?_
  have e : stf .c (u3 sx (valsPV vx) (logPV lx) (entsPV fx) hx'.pv sy (valsPV vy) (logPV ly) (entsPV fy) hy'.pv) sz (valsPV vz) (logPV lz) (entsPV fz) hz'.pv [.any, .any] =
      sk (fun i => (stf .c (u3 sx (valsPV vx) (logPV lx) (entsPV fx) hx'.pv sy (valsPV vy) (logPV ly) (entsPV fy) hy'.pv) sz (valsPV vz) (logPV lz) (entsPV fz) hz'.pv [.any, .any]).getD i .any) (entsPV fx) (entsPV fy) (entsPV fz) := by kernel_rfl
  rw [e]
  exact tail _
end
end Mine
end D28
section D29
namespace Mine
open PM

noncomputable def runT {α : Type} (lt : Nat → Nat → Bool) (n : Nat) : KasT α → Option α
  | .ret a => some a
  | .ask i j k => match Nat.blt i n && Nat.blt j n with
    | true => runT lt n (k (lt i j))
    | false => none
noncomputable def pairPV (p : Int × Int) : PV := .tup [.int p.1, .int p.2]
noncomputable def ltP (a b : Int × Int) : Bool := match a.1 == b.1 with
  | true => decide (a.2 < b.2)
  | false => decide (a.1 < b.1)
noncomputable def ltAt (l : List (Int × Int)) (i j : Nat) : Bool := ltP (l.getD i (0, 0)) (l.getD j (0, 0))
noncomputable def sortP (l : List (Int × Int)) : Option (List (Int × Int)) := match Nat.ble 2 l.length with
  | true => match runT (ltAt l) l.length (kas_sort l.length) with
    | some p => match p.toList.all fun i => Nat.blt i l.length with
      | true => some (p.toList.map fun i => l.getD i (0, 0))
      | false => none
    | none => none
  | false => some l

section
variable {prog : Program} {w : World} {A : Around} {κ : SortKind} {vs : List Value}
theorem run_ok {α : Type} {lt : Nat → Nat → Bool} {n : Nat} {p : α} {h : Heap} (hask : ∀ i j, i < n → j < n → ∀ (C : Bool → Shared → Prop) (s : Shared), s.heap = h → (∀ tk, C (lt i j) { s with toks := tk }) → kas_ask prog w A κ vs i j C s) :
    ∀ (t : KasT α) {Q : α → Shared → Prop} (s : Shared), s.heap = h → runT lt n t = some p → (∀ tk, Q p { s with toks := tk }) → t.kasWp (kas_ask prog w A κ vs) Q s
  | .ret a, Q, s, hs, hr, hQ => by
    cases hr
    exact hQ s.toks
  | .ask i j k, Q, s, hs, hr, hQ => by
    unfold runT at hr
    cases hb : (Nat.blt i n && Nat.blt j n) with
    | false => rw [hb] at hr; cases hr
    | true =>
      rw [hb] at hr
      obtain ⟨h1, h2⟩ := Bool.and_eq_true_iff.mp hb
      refine hask i j (by simpa [Nat.blt_eq] using h1) (by simpa [Nat.blt_eq] using h2) _ s hs fun tk => ?_
      exact run_ok hask (k (lt i j)) { s with toks := tk } hs hr fun tk' => hQ tk'
end

theorem vrs_pairs {W : Wd} {I : Led} {D : List Addr} : ∀ {vs : List Value} {l : List (Int × Int)}, VRs W.K I D vs (l.map pairPV) → ∀ i, i < l.length → W.V I D (vs.getD i Value.none) (pairPV (l.getD i (0, 0)))
  | _, [], _, i, hi => by simp at hi
  | _, p :: l, .cons V r, 0, _ => V
  | _, p :: l, .cons V r, i + 1, hi => by simpa using vrs_pairs r i (by simpa using hi)

section
variable {W : Wd} {A : Around} {h₀ : Heap} {L : Addr} {m : Str → Option Value} {s : Shared} {σ : List PO} {D : List Addr} {I : Led}
/-- one asking of two pairs -/
theorem ask_ok (X : W.K.In h₀) {vs : List Value} {l : List (Int × Int)} (rr : VRs W.K I D vs (l.map pairPV)) {h : Heap} (F : Fr h₀ L h m) (S : W.S h₀ L h σ D I) (i j : Nat) (hi : i < l.length) (hj : j < l.length) (C : Bool → Shared → Prop) (s : Shared) (hs : s.heap = h)
    (hC : ∀ tk, C (ltAt l i j) { s with toks := tk }) : kas_ask W.prog W.w A (tuples' true) vs i j C s := by
  subst hs
  have V1 := vrs_pairs rr i hi
  have V2 := vrs_pairs rr j hj
  unfold kas_ask
  unfold ltAt ltP at hC
  generalize l.getD i (0, 0) = p at V1 hC
  generalize l.getD j (0, 0) = q at V2 hC
  generalize vs.getD i Value.none = x at V1 ⊢
  generalize vs.getD j Value.none = y at V2 ⊢
  unfold pairPV at V1 V2
  obtain ⟨a, rfl⟩ : ∃ a, x = .ref a := by cases V1 <;> exact ⟨_, rfl⟩
  obtain ⟨b, rfl⟩ : ∃ a, y = .ref a := by cases V2 <;> exact ⟨_, rfl⟩
  obtain ⟨xs, _, hx, d1, n1, sl1, ho1⟩ := isTup_of (X.keeps F.keep) S V1
  obtain ⟨ys, _, hy, d2, n2, sl2, ho2⟩ := isTup_of (X.keeps F.keep) S V2
  cases hx with
  | cons A1 A2 =>
  cases A2 with
  | cons A2 A3 =>
  cases A3
  cases A1 with
  | int _ ta =>
  cases A2 with
  | int _ tb =>
  cases hy with
  | cons B1 B2 =>
  cases B2 with
  | cons B2 B3 =>
  cases B3
  cases B1 with
  | int _ ua =>
  cases B2 with
  | int _ ub =>
  refine kat_lt ho1 rfl ho2 rfl ?_
  show KatLex W.prog W.w A true false C [(.int p.1 ta, .int q.1 ua), (.int p.2 tb, .int q.2 ub)] 0 s
  refine kat_cons (SeqAt.EqAt.int_int p.1 ta q.1 ua W.prog W.w _ _ ?_)
  cases h1 : p.1 == q.1 with
  | true =>
    rw [h1] at hC
    refine kat_yes (kat_cons (SeqAt.EqAt.int_int p.2 tb q.2 ub W.prog W.w _ _ ?_))
    cases h2 : p.2 == q.2 with
    | true =>
      have e : decide (p.2 < q.2) = false := by
        have := beq_iff_eq.mp h2
        exact decide_eq_false (by omega)
      rw [e] at hC
      exact kat_yes (kat_nil (hC s.toks))
    | false =>
      refine kat_no ?_
      show wpAny W.M A (oneLt' false (.int p.2 tb) (.int q.2 ub)) C (fun _ _ => False) s
      exact kat_one _ _ (lt_int (hC s.toks))
  | false =>
    rw [h1] at hC
    refine kat_no ?_
    show wpAny W.M A (oneLt' true (.int p.1 ta) (.int q.1 ua)) C (fun _ _ => False) s
    exact oneLt_int (hC s.toks)

end
section
variable {prog : Program} {w : World} {A : Around} {E : Value → Shared → Prop} {s : Shared}
/-- a sort of fewer than two asks nothing -/
theorem sort_short {a : Addr} {vs : List Value} {n : Nat} {P : PySem.Fin → Shared → Prop} (ho : s.heap.get? a = some (seqObj "list" vs.toArray n)) (hlt : vs.length < 2)
    (h : P (.done (.ret .none)) { s with heap := sortedHeap s.heap a vs vs.toArray }) :
    wpAny (model prog w) A (Builtin.«list.sort» ⟨[.ref a], []⟩) P E s := by
  rw [list_sort_plain]
  have ha : a < s.heap.objs.size := Heap.lt_size ho
  refine wpAny_bind (listItems_at ho rfl ?_)
  refine wpAny_bind (listUpdate_at ho rfl ?_ (by rw [List.size_toArray, sizeLine_eq]; omega) (Nat.zero_le _))
  obtain ⟨e1, ho1⟩ : ∃ e1, (s.heap.update a (Obj.mapSeq fun _ => #[])).get? a = some (seqObj "list" #[] e1) := ⟨_, get?_update_seq ho (fun _ => #[])⟩
  refine wpAny_bind (seqEpoch_at ho1 rfl ?_)
  refine wpAny_bind (wpAny_newTuple ?_ (by show vs.length ≤ _; rw [sizeLine_eq]; omega))
  refine wpAny_bind (wpAny_newList ?_ (Nat.zero_le _))
  refine wpAny_holding ?_
  have ho6 : (((s.heap.update a (Obj.mapSeq fun _ => #[])).push (seqObj "tuple" vs.toArray 0)).push (seqObj "list" #[] 0)).get? a = some (seqObj "list" #[] e1) := by
    rw [Heap.get?_push_ne _ _ _ (by rw [size_push', Heap.size_update]; exact Nat.ne_of_lt (Nat.lt_succ_of_lt ha)), Heap.get?_push_ne _ _ _ (by rw [Heap.size_update]; exact Nat.ne_of_lt ha)]
    exact ho1
  show wpAny (model prog w) A _ P E { s with heap := ((s.heap.update a (Obj.mapSeq fun _ => #[])).push (seqObj "tuple" vs.toArray 0)).push (seqObj "list" #[] 0) }
  dsimp only
  have h2 : vs.toArray.size < 2 := by rw [List.size_toArray]; exact hlt
  rw [if_pos h2, if_pos h2]
  refine wpAny_bind (wpAny_pure ?_)
  rw [StateT.run_pure]
  refine wpAny_bind (wpAny_pure ?_)
  dsimp only
  have hout : (arrOf (SortSt.mk' general' (vs.toArray.zip vs.toArray) #[] 7 none)).map (·.2) = vs.toArray := by
    show (vs.toArray.zip vs.toArray).map (·.2) = vs.toArray
    apply Array.toList_inj.mp
    simp [List.map_snd_zip]
  rw [hout]
  refine wpAny_bind (seqEpoch_at ho6 rfl ?_)
  refine wpAny_bind (listUpdate_at ho6 rfl ?_ (Nat.zero_le _) (by rw [List.size_toArray, sizeLine_eq]; omega))
  simp only [bne_self_eq_false, Bool.false_eq_true, if_false]
  exact wpAny_pure h
theorem sorted_short {l : Addr} {vs : List Value} {Q : Value → Shared → Prop} (hl : s.heap.IsList l vs.toArray) (hlt : vs.length < 2)
    (h : Q (.ref (s.heap.objs.size + 1)) { s with heap := sortedAll s.heap vs vs.toArray }) :
    wpAny (model prog w) A (call (.builtin "sorted") [.ref l]) Q E s := by
  refine Calls.call_function_entry kind_sorted plain_sorted entry_sorted (args_sorted1 _) ?_
  unfold Builtin.«sorted»
  refine wpAny_bind (m := checkCount "sorted" 1 1 _) (wpAny_pure ?_)
  refine wpAny_bind (collect_list hl ?_ (by rw [sizeLine_eq]; omega))
  refine wpAny_bind (wpAny_newList ?_ (by rw [sizeLine_eq]; omega))
  have hsz : ((s.heap.push (seqObj "list" #[] 0)).update s.heap.objs.size (Obj.mapSeq (· ++ vs.toArray))).objs.size = s.heap.objs.size + 1 := by
    rw [Heap.size_update, size_push']
  have hoL : (((s.heap.push (seqObj "list" #[] 0)).update s.heap.objs.size (Obj.mapSeq (· ++ vs.toArray))).push (seqObj "list" vs.toArray 0)).get? (s.heap.objs.size + 1) = some (seqObj "list" vs.toArray 0) := by
    rw [← hsz]; exact Heap.get?_push_size _ rfl
  show wpAny _ _ _ _ _ { s with heap := ((s.heap.push (seqObj "list" #[] 0)).update s.heap.objs.size (Obj.mapSeq (· ++ vs.toArray))).push (seqObj "list" vs.toArray 0) }
  rw [hsz]
  refine wpAny_bind (wpAny_holding (wpAny_call_entry slot_list_sort ⟨_, hoL, rfl⟩ entry_list_sort (sort_short hoL hlt ⟨_, rfl, ?_⟩) (args_list_sort _)))
  exact wpAny_pure ⟨_, rfl, h⟩
end

theorem vrs_pick {W : Wd} {I : Led} {D : List Addr} {vs : List Value} {l : List (Int × Int)} (rr : VRs W.K I D vs (l.map pairPV)) : ∀ (p : List Nat), (p.all fun i => Nat.blt i l.length) = true → VRs W.K I D (p.map fun i => vs.getD i Value.none) ((p.map fun i => l.getD i (0, 0)).map pairPV)
  | [], _ => .nil
  | i :: p, h => by
    have h := Bool.and_eq_true_iff.mp h
    exact .cons (vrs_pairs rr i (by simpa [Nat.blt_eq] using h.1)) (vrs_pick rr p h.2)
theorem kat_tups {W : Wd} {h₀ h : Heap} {L : Addr} {σ : List PO} {D : List Addr} {I : Led} {m : Str → Option Value} (X : W.K.In h₀) (F : Fr h₀ L h m) (S : W.S h₀ L h σ D I) (s : Shared) (hs : s.heap = h) : ∀ {vs : List Value} {l : List (Int × Int)}, VRs W.K I D vs (l.map pairPV) → ∃ fs, KatTups h vs fs ∧ fs.length = l.length ∧ ∀ v ∈ fs, ∃ i t, v = .int i t
  | _, [], .nil => ⟨[], KatTups.nil, rfl, nofun⟩
  | _, p :: l, .cons (v := v) V r => by
    subst hs
    obtain ⟨fs, a, b, c⟩ := kat_tups X F S s rfl r
    obtain ⟨x, rfl⟩ : ∃ a, v = .ref a := by
      have V' : W.V I D v (.tup [.int p.1, .int p.2]) := V
      cases V' <;> exact ⟨_, rfl⟩
    obtain ⟨xs, _, hx, d1, n1, sl1, ho1⟩ := isTup_of (X.keeps F.keep) S V
    cases hx with
    | cons A1 A2 =>
    cases A2 with
    | cons A2 A3 =>
    cases A3
    cases A1 with
    | int _ ta =>
    refine ⟨.int p.1 ta :: fs, KatTups.cons ho1 rfl rfl rfl a, by simp [b], fun v hv => ?_⟩
    rcases List.mem_cons.mp hv with rfl | hv
    · exact ⟨_, _, rfl⟩
    · exact c v hv

theorem sorted_pairs {W : Wd} {A : Around} {h₀ : Heap} {L : Addr} {m : Str → Option Value} {s : Shared} {σ : List PO} {D : List Addr} {I : Led} {Q : Value → Shared → Prop} (X : W.K.In h₀) {i : Nat} {l r : List (Int × Int)} {vo : Value} (Vo : W.V I D vo (.obj i)) (hi : σ[i]? = some (.list (l.map pairPV))) (h64 : l.length < 64) (hr : sortP l = some r)
    (F : Fr h₀ L s.heap m) (S : W.S h₀ L s.heap σ D I) (hR : Ret W h₀ L m D I s (σ ++ [.list (r.map pairPV)]) (.obj σ.length) Q) : wpAny W.M A (call (.builtin "sorted") [vo]) Q ff s := by
  obtain ⟨d, vs, n, _, rfl, ho, rr, hd, _, _, _⟩ := list_at S Vo hi
  have hlen : vs.length = l.length := by rw [rr.length, List.length_map]
  have hl : s.heap.IsList d vs.toArray := ⟨_, ho, rfl, _, rfl⟩
  obtain ⟨os, N, Os, nd, ap⟩ := id S
  unfold sortP at hr
  cases h2 : Nat.ble 2 l.length with
  | false =>
    rw [h2] at hr
    cases hr
    have hlt : vs.length < 2 := by
      rw [hlen]
      cases Nat.lt_or_ge l.length 2 with
      | inl h => exact h
      | inr h => rw [Nat.ble_eq_true_of_le h] at h2; cases h2
    refine sorted_short hl hlt ?_
    obtain ⟨e, he⟩ := sortedAll_at s.heap vs vs.toArray
    have N' := N.kept_cons F (fun _ _ => sortedAll_old) (Nat.le_succ _) he
    have off : (∀ a ∈ D, a ≠ s.heap.objs.size + 1) ∧ ∀ p ∈ I, p.1 ≠ s.heap.objs.size + 1 := St.off (W := W) Os fun p hp => Nat.lt_succ_of_lt (Heap.lt_size (N p hp).1)
    exact hR (.ref _) _ s.toks (D ++ [_]) I (F.kept fun _ _ => sortedAll_old) (St.more_of Os nd ap off.1 off.2 (.list (rr.mono Ext.snoc)) N') Ext.snoc (.obj (by rw [← Os.len.2]; exact get_snoc))
  | true =>
    rw [h2] at hr
    dsimp only at hr
    cases hp : runT (ltAt l) l.length (kas_sort l.length) with
    | none => rw [hp] at hr; cases hr
    | some p =>
      rw [hp] at hr
      dsimp only at hr
      cases ha : p.toList.all fun i => Nat.blt i l.length with
      | false => rw [ha] at hr; cases hr
      | true =>
        rw [ha] at hr
        cases hr
        refine kat_sorted F N hl (by rw [hlen]; exact Nat.le_of_ble_eq_true h2) (by omega) fun Dd e1 h' F' N' lt => ?_
        have S' : W.S h₀ L h' σ D I := ⟨os, fun p hp => N' p (.tail _ hp), Os, nd, ap⟩
        obtain ⟨fs, t, tl, ti⟩ := kat_tups X F' S' { s with heap := h' } rfl rr
        refine kat_kind (T := .type "int") t (by have := Nat.le_of_ble_eq_true h2; omega) (fun v hv => ?_) rfl ?_
        · obtain ⟨j, u, rfl⟩ := ti v hv
          exact Looks.now
        · rw [hlen]
          refine run_ok (h := h') (fun i j hi hj C s hs hC => ask_ok X rr F' S' i j hi hj C s hs hC) _ _ rfl hp fun tk => ?_
          refine KasFin.intro (news := (Dd, seqObj "list" #[] e1) :: (D.zip os ++ I)) F' N' (.head fun p hp => Nat.ne_of_lt (lt p hp)) fun h'' c F'' N'' => ?_
          have off := St.off (W := W) Os lt
          exact hR (.ref Dd) h'' tk (D ++ [Dd]) I F'' (St.more_of Os nd ap off.1 off.2 (.list ((vrs_pick rr p.toList ha).mono Ext.snoc)) N'') Ext.snoc (.obj (by rw [← Os.len.2]; exact get_snoc))
end Mine
end D29
section D30
namespace Mine
open PM

noncomputable def Oemp (b : Bool) : Orc := { O1 with emp := fun _ => some b }
noncomputable def cs12 : Scope := relabel (scO (pth (le 12) [1])) (envX "" csW 0 0 .none [("cells", 0)])
noncomputable abbrev tg12 : PySem.Expr := .Tuple [.Name "none" (pp 12 [1, 1, 0]), .Name "text" (pp 12 [1, 1, 1]), .Name "place" (pp 12 [1, 1, 2])] 0 (pp 12 [1, 1])
noncomputable abbrev tg14 : PySem.Expr := .Tuple [.Name "first" (pth (foT (bd 423 14)) [0]).pos, .Name "text" (pth (foT (bd 423 14)) [1]).pos, .Name "place" (pth (foT (bd 423 14)) [2]).pos] 0 (foT (bd 423 14)).pos
theorem law_12 : bd 423 12 = .Assign [.Name "due" (stT (bd 423 12)).pos] (.Call (.Name "sorted" (pp 12 [0])) [.ListComp (pth (le 12) [1, 0]) [⟨tg12, .Name "squares" (pp 12 [1, 2]), [], 0⟩] (scO (pth (le 12) [1])) (pp 12 [1])] [] (pp 12 [])) (stP (bd 423 12)) := by kernel_rfl
theorem law_14 : bd 423 14 = .For tg14 (.Name "told" (foI (bd 423 14)).pos) (whB (bd 423 14)) [] (whP (bd 423 14)) := by kernel_rfl
theorem law_15 : bd 423 15 = .Return (some (.Compare (.Call (.Name "sorted" (pp 15 [0, 0])) [.Name "found" (pp 15 [0, 1])] [] (pp 15 [0])) [.Eq] [.Name "due" (pp 15 [1])] (pp 15 []))) (stP (bd 423 15)) := by kernel_rfl

noncomputable def rho12 (x y z : Str) : Loc := rho10 x y z ++ ([("due", .obj 43)] : Loc)
noncomputable def rho13 (x y z : Str) : Loc := rho12 x y z ++ ([("found", .obj 44)] : Loc)
noncomputable def rho14 (x y z : Str) (e : Ent) : Loc := rho13 x y z ++ ([("first", .str e.1), ("text", .str e.2.1), ("place", .int e.2.2)] : Loc)
noncomputable def rho14b (x y z : Str) (e : Ent) (b : Int) : Loc := rho13 x y z ++ ([("first", .str e.1), ("text", .str e.2.1), ("place", .int e.2.2), ("begin", .int b)] : Loc)
noncomputable def rhoE (e : Ent) : Loc := [("none", .str e.1), ("text", .str e.2.1), ("place", .int e.2.2)]
noncomputable def duP (e : Ent) : Int × Int := (e.2.2 - 2 * (e.2.1.length : Int), (e.2.1.length : Int))
noncomputable def beg (e : Ent) : Int := e.2.2 - 2 * ((e.1 ++ e.2.1).length : Int) - 1
noncomputable def foP (x : Str) (e : Ent) : Int × Int := (Txt.count (Txt.slice x none (some (beg e))) "a", Txt.count (e.1 ++ e.2.1) "a")

section
variable (u : Nat → PO) (a b c : List PV) (p q r t r' t' : PO) (x y z : Str) (e e' : Ent) (bb : Int) (fd : List PV) (it dl : PO) (σ : List PO)
set_option maxHeartbeats 0
theorem px_11 (k : Bool) : px tab (Oemp k) 100 24 csW (rho10 x y z) (bd 423 11) (sk u a b c) = some ((.next, rho10 x y z), sk u a b c ++ [.list [], .list []], [.emp a k, .emp b k]) := by cases k <;> kernel_rfl
theorem sk_g35 : (sk u a b c ++ [p, q, r, t])[35]? = some (.list c) := by kernel_rfl
theorem sk_g41 : (sk u a b c ++ [p, q, r, t])[41]? = some r := by kernel_rfl
theorem sk_g42 : (sk u a b c ++ [p, q, r, t])[42]? = some t := by kernel_rfl
theorem sk_s41 : (sk u a b c ++ [p, q, r, t]).set 41 r' = sk u a b c ++ [p, q, r', t] := by kernel_rfl
theorem sk_s42 : (sk u a b c ++ [p, q, r, t]).set 42 t' = sk u a b c ++ [p, q, r, t'] := by kernel_rfl
theorem el_12 : pe tab O1 100 0 cs12 (rhoE e) (pth (le 12) [1, 0]) σ = some (pairPV (duP e), σ, [.le e.2.1.length 10000, .le e.2.1.length 10000]) := by kernel_rfl
theorem it_12 : pe tab O1 100 24 csW (rho10 x y z) (.Name "squares" (pp 12 [1, 2])) σ = some (.obj 35, σ, []) := by kernel_rfl
theorem px_13 (due : List PV) : px tab O1 100 24 csW (rho12 x y z) (bd 423 13) (sk u a b c ++ [p, q, r, t, .list due]) = some ((.next, rho13 x y z), sk u a b c ++ [p, q, r, t, .list due, .list []], []) := by kernel_rfl
theorem it_14 : pe tab O1 100 24 csW (rho13 x y z) (.Name "told" (foI (bd 423 14)).pos) σ = some (.obj 10, σ, []) := by kernel_rfl
theorem tk_g10 : (sk u a b c ++ [p, q, r, t, dl, .list fd, it])[10]? = some (.list a) := by kernel_rfl
theorem tk_g45 : (sk u a b c ++ [p, q, r, t, dl, .list fd, it])[45]? = some it := by kernel_rfl
theorem tk_s45 : (sk u a b c ++ [p, q, r, t, dl, .list fd, it]).set 45 r' = sk u a b c ++ [p, q, r, t, dl, .list fd, r'] := by kernel_rfl
theorem bo_Y : pxs tab (Oseq true) 100 24 csW (rho14 x y z e) (whB (bd 423 14)) (sk u a b c ++ [p, q, r, t, dl, .list fd, it]) = some ((.next, rho14b x y z e (beg e)), sk u a b c ++ [p, q, r, t, dl, .list (fd ++ [pairPV (foP x e)]), it],
    [.seq e.1 "a" true, .le (e.1.length + e.2.1.length) 100000, .le (e.1 ++ e.2.1).length 10000, .le x.length 10000, .le (e.1.length + e.2.1.length) 100000, .le fd.length 10000]) := by kernel_rfl
theorem bo_Yb : pxs tab (Oseq true) 100 24 csW (rho14b x y z e bb) (whB (bd 423 14)) (sk u a b c ++ [p, q, r, t, dl, .list fd, it]) = some ((.next, rho14b x y z e (beg e)), sk u a b c ++ [p, q, r, t, dl, .list (fd ++ [pairPV (foP x e)]), it],
    [.seq e.1 "a" true, .le (e.1.length + e.2.1.length) 100000, .le (e.1 ++ e.2.1).length 10000, .le x.length 10000, .le (e.1.length + e.2.1.length) 100000, .le fd.length 10000]) := by kernel_rfl
theorem bo_N : pxs tab (Oseq false) 100 24 csW (rho14 x y z e) (whB (bd 423 14)) σ = some ((.next, rho14 x y z e), σ, [.seq e.1 "a" false]) := by kernel_rfl
theorem bo_Nb : pxs tab (Oseq false) 100 24 csW (rho14b x y z e bb) (whB (bd 423 14)) σ = some ((.next, rho14b x y z e bb), σ, [.seq e.1 "a" false]) := by kernel_rfl
theorem st_0 : setAll ["first", "text", "place"] [.str e.1, .str e.2.1, .int e.2.2] (rho13 x y z) = rho14 x y z e := by kernel_rfl
theorem st_1 : setAll ["first", "text", "place"] [.str e.1, .str e.2.1, .int e.2.2] (rho14 x y z e') = rho14 x y z e := by kernel_rfl
theorem st_2 : setAll ["first", "text", "place"] [.str e.1, .str e.2.1, .int e.2.2] (rho14b x y z e' bb) = rho14b x y z e bb := by kernel_rfl
theorem st_e0 : setAll ["none", "text", "place"] [.str e.1, .str e.2.1, .int e.2.2] ([] : Loc) = rhoE e := by kernel_rfl
theorem st_e1 : setAll ["none", "text", "place"] [.str e.1, .str e.2.1, .int e.2.2] (rhoE e') = rhoE e := by kernel_rfl
theorem due_set : setL "due" (.obj 43) (rho10 x y z) = rho12 x y z := by kernel_rfl
end
end Mine
end D30
section D31
namespace Mine
open PM

theorem XOK.sorted {W : Wd} {k : Nat} {cs : Scope} {cl : List (Str × Addr)} {P : Heap → Prop} {ρ : Loc} {σ σ₁ : List PO} {f : Str} {pf pos : Pos} {e : PySem.Expr} {i : Nat} {l r : List (Int × Int)} (hf : nameE W.Tb cs ρ f = some (.glo (.builtin "sorted"))) (hn : noStar [e] = true) (he : XOK W k cs cl P ρ e σ (.obj i) σ₁)
    (hi : σ₁[i]? = some (.list (l.map pairPV))) (h64 : l.length < 64) (hr : sortP l = some r) : XOK W k cs cl P ρ (.Call (.Name f pf) [e] [] pos) σ (.obj σ₁.length) (σ₁ ++ [.list (r.map pairPV)]) := by
  intro A env h₀ L m D I s hP xc F S lr Q hR
  rw [call_eq (by intro _ _ _ h; cases h)]
  have ec := xc.ec (D := D) (I := I) lr
  refine wpAny_bind (ec.nm _ _ hf pf s σ D I Ext.refl F S _ fun v V => ?_)
  cases V
  refine callW (first := []) hn keeps_builtin (args_cons (he A env h₀ L m D I s hP xc F S lr _ fun va ha ta Da Ia Fa Sa xa Va => args_nil ⟨trivial, ?_⟩) (starEach_cons hn))
  exact sorted_pairs xc.gd.X Va hi h64 hr Fa Sa (hR.later xa)

noncomputable def foundOf (x : Str) (l : List Ent) : List (Int × Int) := (l.filter fun e => e.1 == ("a" : Str)).map (foP x)
section
variable (w : World) (mean : ExcName → Option Value) (mg mb : Str → Option Value)
variable (c : Addr) (u : Nat → PO)
theorem CS_12 (ρ : Loc) : CS (wd w mean mg mb) csW (clW c) ρ (scO (pth (le 12) [1])) cs12 [] [] where
  rel := fun qual L f cdv => by kernel_rfl
  clos := fun qual L f cdv => by kernel_rfl
  kd := by kernel_rfl
  cell := by decide +kernel
  nms := by decide +kernel
  lr := fun I D m h x pv e => by cases e
theorem due_loop (a b : List PV) (p q : PO) : ∀ (todo don : List Ent) (ρ : Loc), (ρ = [] ∨ ∃ e, ρ = rhoE e) → (∀ e ∈ todo, e.2.1.length ≤ 10000) → don.length + todo.length ≤ 1000 →
    LCOK (wd w mean mg mb) cs12 tg12 (pth (le 12) [1, 0]) 41 42 ρ (sk u a b ((don ++ todo).map entPV) ++ [p, q, .liter 35 don.length, .list ((don.map duP).map pairPV)]) (sk u a b ((don ++ todo).map entPV) ++ [p, q, .any, .list (((don ++ todo).map duP).map pairPV)])
  | [], don, ρ, hρ, hs, hl => by
    have e : NxtEnd (sk u a b ((don ++ []).map entPV) ++ [p, q, .liter 35 don.length, .list ((don.map duP).map pairPV)]) 41 _ := .list (i := 35) (l := (don ++ []).map entPV) (by rw [sk_g41]; simp) (by rw [sk_g35])
    have := LCOK.stop (W := (wd w mean mg mb)) (cs' := cs12) (target := tg12) (elt := pth (le 12) [1, 0]) (k := 42) (ρ := ρ) e
    rw [sk_s41] at this
    rw [List.append_nil] at this ⊢
    exact this
  | x :: todo, don, ρ, hρ, hs, hl => by
    have ih := due_loop a b p q todo (don ++ [x]) (rhoE x) (.inr ⟨x, rfl⟩) (fun a ha => hs a (.tail _ ha)) (by simp at hl ⊢; omega)
    have el : don ++ [x] ++ todo = don ++ x :: todo := by simp
    rw [el, List.length_append, List.length_singleton] at ih
    have hx := hs x (.head _)
    refine LCOK.next (pv := entPV x) (q := pairPV (duP x)) (ρ₁ := rhoE x) (σ₂ := sk u a b ((don ++ x :: todo).map entPV) ++ [p, q, .liter 35 (don.length + 1), .list ((don.map duP).map pairPV)]) rfl (.list (i := 35) (n := don.length) (l := (don ++ x :: todo).map entPV) (sk_g41 ..) (sk_g35 ..) (by simp)) ?_ ?_ (l := (don.map duP).map pairPV) (sk_g42 ..) (by simp at hl ⊢; omega) ?_
    · have g : setAll ["none", "text", "place"] [.str x.1, .str x.2.1, .int x.2.2] ρ = rhoE x := by
        rcases hρ with rfl | ⟨y, rfl⟩
        · exact st_e0 x
        · exact st_e1 x y
      rw [← g]
      exact GCOK.tuple (by kernel_rfl) (by kernel_rfl)
    · rw [sk_s41]
      exact EOK.ev (el_12 x _) (cons_holds (le_holds hx) (cons_holds (le_holds hx) nil_holds))
    · rw [sk_s42]
      simpa using ih

theorem found_loop (b cc : List PV) (p q r t dl : PO) (x y z : Str) (hx : x.length ≤ 10000) : ∀ (todo don : List Ent) (ρ : Loc), (ρ = rho13 x y z ∨ (∃ e, ρ = rho14 x y z e) ∨ ∃ e k, ρ = rho14b x y z e k) → (∀ e ∈ todo, e.1.length + e.2.1.length ≤ 10000) → don.length + todo.length ≤ 1000 →
    ∃ ρ', (ρ' = rho13 x y z ∨ (∃ e, ρ' = rho14 x y z e) ∨ ∃ e k, ρ' = rho14b x y z e k) ∧ FOK (wd w mean mg mb) 24 csW tg14 (whB (bd 423 14)) 45 ρ (sk u ((don ++ todo).map entPV) b cc ++ [p, q, r, t, dl, .list ((foundOf x don).map pairPV), .liter 10 don.length]) .next ρ' (sk u ((don ++ todo).map entPV) b cc ++ [p, q, r, t, dl, .list ((foundOf x (don ++ todo)).map pairPV), .any])
  | [], don, ρ, hρ, hs, hl => by
    refine ⟨ρ, hρ, ?_⟩
    have e := FOK.listStop (W := (wd w mean mg mb)) (k := 24) (cs := csW) (target := tg14) (body := whB (bd 423 14)) (ρ := ρ) (tk_g45 u ((don ++ []).map entPV) b cc p q r t ((foundOf x don).map pairPV) (.liter 10 don.length) dl) (tk_g10 ..) (by simp)
    rw [tk_s45] at e
    rw [List.append_nil] at e ⊢
    exact e
  | e :: todo, don, ρ, hρ, hs, hl => by
    have he := hs e (.head _)
    have el : don ++ [e] ++ todo = don ++ e :: todo := by simp
    have hsum : (e.1 ++ e.2.1).length ≤ 10000 := by rw [Str.length_append]; exact he
    have g : ∃ ρ₁, setAll ["first", "text", "place"] [.str e.1, .str e.2.1, .int e.2.2] ρ = ρ₁ ∧ (ρ₁ = rho14 x y z e ∨ ∃ k, ρ₁ = rho14b x y z e k) := by
      rcases hρ with rfl | ⟨e', rfl⟩ | ⟨e', k, rfl⟩
      · exact ⟨_, st_0 .., .inl rfl⟩
      · exact ⟨_, st_1 .., .inl rfl⟩
      · exact ⟨_, st_2 .., .inr ⟨k, rfl⟩⟩
    obtain ⟨ρ₁, g1, g2⟩ := g
    have fl : (foundOf x don).length ≤ 10000 := by
      unfold foundOf
      rw [List.length_map]
      have := List.length_filter_le (fun e : Ent => e.1 == ("a" : Str)) don
      simp at hl; omega
    have body : ∃ ρ₂, (ρ₂ = rho14 x y z e ∨ ∃ k, ρ₂ = rho14b x y z e k) ∧ SSOK (wd w mean mg mb) 24 csW ρ₁ (whB (bd 423 14)) (sk u ((don ++ e :: todo).map entPV) b cc ++ [p, q, r, t, dl, .list ((foundOf x don).map pairPV), .liter 10 (don.length + 1)]) .next ρ₂
        (sk u ((don ++ e :: todo).map entPV) b cc ++ [p, q, r, t, dl, .list ((foundOf x (don ++ [e])).map pairPV), .liter 10 (don.length + 1)]) := by
      cases hs : e.1 == ("a" : Str) with
      | true =>
        have ef : (foundOf x (don ++ [e])).map pairPV = (foundOf x don).map pairPV ++ [pairPV (foP x e)] := by
          unfold foundOf
          rw [List.filter_append, List.map_append, List.map_append]
          simp [hs]
        rw [ef]
        have c1 : (Con.seq e.1 "a" true).holds (wd w mean mg mb) := hs
        have cs := cons_holds c1 (cons_holds (le_holds (Nat.le_trans he (show 10000 ≤ 100000 by decide))) (cons_holds (le_holds hsum) (cons_holds (le_holds hx) (cons_holds (le_holds (Nat.le_trans he (show 10000 ≤ 100000 by decide))) (cons_holds (W := (wd w mean mg mb)) (c := .le ((foundOf x don).map pairPV).length 10000) (le_holds (by rw [List.length_map]; exact fl)) nil_holds)))))
        rcases g2 with rfl | ⟨k, rfl⟩
        · exact ⟨_, .inr ⟨_, rfl⟩, SSOK.ev (bo_Y ..) cs⟩
        · exact ⟨_, .inr ⟨_, rfl⟩, SSOK.ev (bo_Yb ..) cs⟩
      | false =>
        have ef : foundOf x (don ++ [e]) = foundOf x don := by
          unfold foundOf
          rw [List.filter_append]
          simp [hs]
        rw [ef]
        have c1 : (Con.seq e.1 "a" false).holds (wd w mean mg mb) := hs
        rcases g2 with rfl | ⟨k, rfl⟩
        · exact ⟨_, .inl rfl, SSOK.ev (bo_N ..) (cons_holds c1 nil_holds)⟩
        · exact ⟨_, .inr ⟨_, rfl⟩, SSOK.ev (bo_Nb ..) (cons_holds c1 nil_holds)⟩
    obtain ⟨ρ₂, g3, sb⟩ := body
    obtain ⟨ρ', r', ih⟩ := found_loop b cc p q r t dl x y z hx todo (don ++ [e]) ρ₂ (.inr (g3.elim (fun h => .inl ⟨e, h⟩) fun ⟨k, h⟩ => .inr ⟨e, k, h⟩)) (fun a ha => hs a (.tail _ ha)) (by simp at hl ⊢; omega)
    rw [el, List.length_append, List.length_singleton] at ih
    refine ⟨ρ', r', ?_⟩
    refine FOK.listNext (tk_g45 ..) (tk_g10 ..) (pv := entPV e) (by simp) rfl (ρ₁ := ρ₁) ?_ ?_ ih
    · rw [← g1]
      exact GOK.tuple (by kernel_rfl) (by kernel_rfl)
    · rw [tk_s45]
      exact sb
end
end Mine
end D31
section D32
namespace Mine
open PM

theorem ents_rev (l : List Ent) : entsPV l = l.reverse.map entPV := by unfold entsPV; rw [List.map_reverse]
theorem pair_eq {W : Wd} {A : Around} {h₀ : Heap} {L : Addr} {m : Str → Option Value} {s : Shared} {σ : List PO} {D : List Addr} {I : Led} (X : W.K.In h₀) (F : Fr h₀ L s.heap m) (S : W.S h₀ L s.heap σ D I) (hu : A.units < cLine) {v1 v2 : Value} {p : Int × Int} (V1 : W.V I D v1 (pairPV p)) (V2 : W.V I D v2 (pairPV p)) : SeqAt.EqAt A s v1 v2 true := by
  unfold pairPV at V1 V2
  obtain ⟨a, rfl⟩ : ∃ a, v1 = .ref a := by cases V1 <;> exact ⟨_, rfl⟩
  obtain ⟨b, rfl⟩ : ∃ a, v2 = .ref a := by cases V2 <;> exact ⟨_, rfl⟩
  by_cases hab : a = b
  · subst hab
    intro prog w E Q hq
    unfold eqBool
    refine wpAny_holding ?_
    refine wpAny_ite_split (fun _ => ?_) (fun h => ?_)
    · first | exact wpAny_pure (M := model prog w) (E := E) hq | exact hq | (trace_state; exact hq)
    · exact absurd (beq_self_eq_true _) h
  · obtain ⟨xs, _, hx, d1, n1, sl1, ho1⟩ := isTup_of (X.keeps F.keep) S V1
    obtain ⟨ys, _, hy, d2, n2, sl2, ho2⟩ := isTup_of (X.keeps F.keep) S V2
    cases hx with
    | cons A1 A2 =>
    cases A2 with
    | cons A2 A3 =>
    cases A3
    cases A1 with
    | int _ ta =>
    cases A2 with
    | int _ tb =>
    cases hy with
    | cons B1 B2 =>
    cases B2 with
    | cons B2 B3 =>
    cases B3
    cases B1 with
    | int _ ua =>
    cases B2 with
    | int _ ub =>
    refine SeqAt.EqAt.of_refs hab ?_
    have := SeqAt.RcAt.tuples (A := A) (s := s) (e := fun _ => true) (items := List.toArray [.int p.1 ta, .int p.2 tb]) (items2 := List.toArray [.int p.1 ua, .int p.2 ub]) ⟨_, ho1, rfl, _, rfl⟩ ⟨_, ho2, rfl, _, rfl⟩ hu fun j h1 h2 => by
      match j, h1 with
      | 0, _ =>
        have q := SeqAt.EqAt.int_int (A := A.in1) (s := s) p.1 ta p.1 ua
        rw [beq_self_eq_true] at q
        exact q
      | 1, _ =>
        have q := SeqAt.EqAt.int_int (A := A.in1) (s := s) p.2 tb p.2 ub
        rw [beq_self_eq_true] at q
        exact q
    exact this
section
variable (w : World) (mean : ExcName → Option Value) (mg mb : Str → Option Value)
variable (c : Addr) (u : Nat → PO)
theorem ret_15 {P : Heap → Prop} {ρ : Loc} {σ : List PO} {fl r : List (Int × Int)} (h1 : nameE tab csW ρ "found" = some (.obj 44)) (h2 : nameE tab csW ρ "due" = some (.obj 43)) (h0 : nameE tab csW ρ "sorted" = some (.glo (.builtin "sorted")))
    (h3 : σ[44]? = some (.list (fl.map pairPV))) (h4 : σ[43]? = some (.list (r.map pairPV))) (h64 : fl.length < 64) (hr : sortP fl = some r) : TSS (wd w mean mg mb) 24 csW (clW c) P ρ [bd 423 15] σ true := by
  intro A env h₀ L m D I s hP xc F S lr Q hQ
  rw [law_15]
  have ec := xc.ec (D := D) (I := I) lr
  have nf : XOK (wd w mean mg mb) 24 csW (clW c) P ρ (.Name "found" (pp 15 [0, 1])) σ (.obj 44) σ := fun A env h₀ L m D I s hP xc F S lr Q hR => (xc.ec lr).nm _ _ h1 _ s σ D I Ext.refl F S _ fun v V => hR.at F S V
  have hso := XOK.sorted (pf := pp 15 [0, 0]) (pos := pp 15 [0]) h0 rfl nf h3 h64 hr
  refine wpAny_execs_cons (wpAny_Return_some (wpAny_Compare1 (hso A env h₀ L m D I s hP xc F S lr _ fun va ha ta Da Ia Fa Sa xa Va => ?_) rfl))
  refine (xc.ec (lr.later xa)).nm _ _ h2 _ { s with heap := ha, toks := ta } _ Da Ia Ext.refl Fa Sa _ fun vb Vb => ?_
  obtain ⟨d, vs, n, _, rfl, ho, rr, hd, _, _, _⟩ := list_at (s := { s with heap := ha, toks := ta }) Sa Va (l := r.map pairPV) (by simp)
  obtain ⟨d2, ws, n2, _, rfl, ho2, rr2, hd2, _, _, _⟩ := list_at (s := { s with heap := ha, toks := ta }) Sa Vb (l := r.map pairPV) (by
    have : 43 < σ.length := by
      by_cases q : 43 < σ.length
      · exact q
      · rw [List.getElem?_eq_none (by omega)] at h4; cases h4
    rw [List.getElem?_append_left this]; exact h4)
  have hl1 : vs.length = r.length := by rw [rr.length, List.length_map]
  have hl2 : ws.length = r.length := by rw [rr2.length, List.length_map]
  refine EqBoolInt.of_rc (k := true) ?_ ?_
  · have hb : ((List.range (List.toArray vs).size).all fun _ => true) = true := by simp
    have := SeqAt.RcAt.lists (A := A) (s := { s with heap := ha, toks := ta }) (e := fun _ => true) (items := List.toArray vs) (items2 := List.toArray ws) ⟨_, ho, rfl, _, rfl⟩ ⟨_, ho2, rfl, _, rfl⟩ (by simp [hl1, hl2]) (by have := xc.un; omega) fun j g1 g2 => by
      have hj : j < r.length := by simpa [hl1] using g1
      have e1 : (r.map pairPV)[j]? = some (pairPV r[j]) := by simp [hj]
      obtain ⟨v1, ev1, V1⟩ := rr.get e1
      obtain ⟨v2, ev2, V2⟩ := rr2.get e1
      have q1 : (List.toArray vs)[j] = v1 := by
        have : vs[j]? = some vs[j] := List.getElem?_eq_getElem (by omega)
        rw [this] at ev1; simpa using ev1
      have q2 : (List.toArray ws)[j] = v2 := by
        have : ws[j]? = some ws[j] := List.getElem?_eq_getElem (by omega)
        rw [this] at ev2; simpa using ev2
      rw [q1, q2]
      exact pair_eq (A := A.in1) (s := { s with heap := ha, toks := ta }) xc.gd.X Fa Sa (by have := xc.un; show A.units + 1 < cLine; omega) V1 V2
    rw [hb] at this
    exact this
  · exact hQ ha ta m Fa

theorem tail_ok {P : Heap → Prop} {x y z : Str} {fx fy fz : List Ent} {r : List (Int × Int)} {k : Bool} (hx : x.length ≤ 10000) (ex : (entsPV fx).isEmpty = k) (ey : (entsPV fy).isEmpty = k)
    (lx : fx.length < 64) (lz : fz.length < 64) (tx : ∀ e ∈ fx, e.1.length + e.2.1.length ≤ 10000) (tz : ∀ e ∈ fz, e.2.1.length ≤ 10000) (sz : sortP (fz.reverse.map duP) = some r) (sx : sortP (foundOf x fx.reverse) = some r) :
    TSS (wd w mean mg mb) 24 csW (clW c) P (rho10 x y z) [bd 423 11, bd 423 12, bd 423 13, bd 423 14, bd 423 15] (sk u (entsPV fx) (entsPV fy) (entsPV fz)) true := by
  refine TSS.cons (SOK.ev (px_11 u (entsPV fx) (entsPV fy) (entsPV fz) x y z k) (cons_holds ex (cons_holds ey nil_holds))) ?_
  rw [ents_rev fx, ents_rev fz, law_12]
  have l11 : (sk u (fx.reverse.map entPV) (entsPV fy) (fz.reverse.map entPV) ++ ([.list [], .list []] : List PO)).length = 41 := by kernel_rfl
  have dl := due_loop w mean mg mb u (fx.reverse.map entPV) (entsPV fy) (.list []) (.list []) fz.reverse [] [] (.inl rfl) (fun e he => tz e (List.mem_reverse.mp he)) (by simp; omega)
  have hc := XOK.compList (k := 24) (P := P) (pos := pp 12 [1]) (elt := pth (le 12) [1, 0]) (target := tg12) (CS_12 w mean mg mb c (rho10 x y z)) (XOK.of (EOK.ev (W := (wd w mean mg mb)) (it_12 x y z (sk u (fx.reverse.map entPV) (entsPV fy) (fz.reverse.map entPV) ++ [.list [], .list []])) nil_holds)) (l := fz.reverse.map entPV) (by kernel_rfl) (fun _ _ => rfl) (by
    rw [l11, List.append_assoc, List.append_assoc]; exact dl)
  rw [l11] at hc
  have hs := XOK.sorted (pf := pp 12 [0]) (pos := pp 12 []) (show nameE tab csW (rho10 x y z) "sorted" = some (.glo (.builtin "sorted")) by kernel_rfl) rfl hc (l := fz.reverse.map duP) (by kernel_rfl) (by simpa using lz) sz
  refine TSS.assign rfl (by kernel_rfl) hs ?_
  have l12 : (sk u (fx.reverse.map entPV) (entsPV fy) (([] ++ fz.reverse).map entPV) ++ ([.list [], .list [], .any, .list ((([] ++ fz.reverse).map duP).map pairPV)] : List PO)).length = 43 := by kernel_rfl
  rw [l12, due_set, List.append_assoc]
  refine TSS.cons (SOK.ev (px_13 u (fx.reverse.map entPV) (entsPV fy) (fz.reverse.map entPV) (.list []) (.list []) .any (.list ((fz.reverse.map duP).map pairPV)) x y z (r.map pairPV)) nil_holds) ?_
  rw [law_14]
  obtain ⟨ρ', hρ', fl⟩ := found_loop w mean mg mb u (entsPV fy) (fz.reverse.map entPV) (.list []) (.list []) .any (.list ((fz.reverse.map duP).map pairPV)) (.list (r.map pairPV)) x y z hx fx.reverse [] (rho13 x y z) (.inl rfl) (fun e he => tx e (List.mem_reverse.mp he)) (by simp; omega)
  have l13 : (sk u (fx.reverse.map entPV) (entsPV fy) (fz.reverse.map entPV) ++ ([.list [], .list [], .any, .list ((fz.reverse.map duP).map pairPV), .list (r.map pairPV), .list []] : List PO)).length = 45 := by kernel_rfl
  refine TSS.cons (SOK.forList (EOK.ev (W := (wd w mean mg mb)) (it_14 x y z _) nil_holds) (l := fx.reverse.map entPV) (by kernel_rfl) (fun _ _ => rfl) (ρ' := ρ') (by
    rw [l13, List.append_assoc]; exact fl)) ?_
  refine ret_15 w mean mg mb c (fl := foundOf x fx.reverse) (r := r) ?_ ?_ ?_ (by kernel_rfl) (by kernel_rfl) ?_ sx
  · rcases hρ' with rfl | ⟨e, rfl⟩ | ⟨e, k, rfl⟩ <;> kernel_rfl
  · rcases hρ' with rfl | ⟨e, rfl⟩ | ⟨e, k, rfl⟩ <;> kernel_rfl
  · rcases hρ' with rfl | ⟨e, rfl⟩ | ⟨e, k, rfl⟩ <;> kernel_rfl
  · unfold foundOf
    rw [List.length_map]
    have := List.length_filter_le (fun e : Ent => e.1 == ("a" : Str)) fx.reverse
    rw [List.length_reverse] at this
    omega
end
end Mine
end D32
section D33
namespace Mine
open PM

noncomputable def toldR (parts : List Nd) (t : Str) : Option (List Ent) := match runAll t 1000 (patOf parts) (t.length + 1) 0 0 [] [] with
  | some (_, _, log) => match tellAll log.reverse (.h0 "") [] with
    | some (_, f) => some f
    | none => none
  | none => none
noncomputable def imgT (x : Str) : Str := Txt.join "" (imgs x)
noncomputable def figsT (x : Str) : Str := Txt.join "" ((figs x).map figT)
noncomputable def sizes (x : Str) : Bool := Nat.ble x.cps.size 100 && Nat.ble (Txt.split x "a").length 100 && ((figs x).all fun a => Nat.ble a.length 100) && (((figs x).map figT).all fun a => Nat.ble a.length 10) && Nat.ble (imgT x).length 100 && Nat.ble (figsT x).length 100
noncomputable def same (a b : Option (List (Int × Int))) : Bool := match a, b with
  | some r, some r' => r == r'
  | _, _ => false
noncomputable def agree (x : Str) (fx fy fz : List Ent) : Bool := (fx.isEmpty == fy.isEmpty) && Nat.blt fx.length 64 && Nat.blt fz.length 64 && (fx.all fun e => Nat.ble (e.1.length + e.2.1.length) 100) && (fz.all fun e => Nat.ble e.2.1.length 100) &&
  same (sortP (fz.reverse.map duP)) (sortP (foundOf x fx.reverse))
noncomputable def good (x : Str) : Bool := sizes x && match toldR pat5 x with
  | some fx => match toldR pat5 (imgT x) with
    | some fy => match toldR pat2 (figsT x) with
      | some fz => agree x fx fy fz
      | none => false
    | none => false
  | none => false
noncomputable def wordD (ds : List Bool) : Str := Txt.join "" (ds.map fun b => Txt.item "ab" (match b with | true => 1 | false => 0))
noncomputable def allD : Nat → List (List Bool)
  | 0 => [[]]
  | n + 1 => (allD n).flatMap fun d => [true :: d, false :: d]
theorem mem_allD : ∀ (d : List Bool), d ∈ allD d.length
  | [] => by simp [allD]
  | b :: d => by
    show b :: d ∈ (allD d.length).flatMap fun d => [true :: d, false :: d]
    refine List.mem_flatMap.mpr ⟨d, mem_allD d, ?_⟩
    cases b <;> simp
set_option maxHeartbeats 0
noncomputable def preD (p : List Bool) (n : Nat) : Bool := (allD n).all fun d => good (wordD (p ++ d))
theorem preD_ok {p : List Bool} {n : Nat} (h : preD p n = true) (d : List Bool) (hd : d.length = n) : good (wordD (p ++ d)) = true := by
  have m := mem_allD d
  rw [hd] at m
  exact List.all_eq_true.mp h d m
theorem good_1 : preD [] 1 = true := by kernel_rfl
theorem good_2 : preD [] 2 = true := by kernel_rfl
theorem good_3 : preD [] 3 = true := by kernel_rfl
theorem good_4 : preD [] 4 = true := by kernel_rfl
theorem good_5t : preD [true] 4 = true := by kernel_rfl
theorem good_5f : preD [false] 4 = true := by kernel_rfl
theorem good_6ttt : preD [true, true, true] 3 = true := by kernel_rfl
theorem good_6ttf : preD [true, true, false] 3 = true := by kernel_rfl
theorem good_6tft : preD [true, false, true] 3 = true := by kernel_rfl
theorem good_6tff : preD [true, false, false] 3 = true := by kernel_rfl
theorem good_6ftt : preD [false, true, true] 3 = true := by kernel_rfl
theorem good_6ftf : preD [false, true, false] 3 = true := by kernel_rfl
theorem good_6fft : preD [false, false, true] 3 = true := by kernel_rfl
theorem good_6fff : preD [false, false, false] 3 = true := by kernel_rfl
theorem good_all (d : List Bool) (h1 : 1 ≤ d.length) (h6 : d.length ≤ 6) : good (wordD d) = true := by
  match d, h1, h6 with
  | [a], _, _ => exact preD_ok good_1 [a] rfl
  | [a, b], _, _ => exact preD_ok good_2 [a, b] rfl
  | [a, b, c], _, _ => exact preD_ok good_3 [a, b, c] rfl
  | [a, b, c, e], _, _ => exact preD_ok good_4 [a, b, c, e] rfl
  | [true, b, c, e, f], _, _ => exact preD_ok good_5t [b, c, e, f] rfl
  | [false, b, c, e, f], _, _ => exact preD_ok good_5f [b, c, e, f] rfl
  | [true, true, true, e, f, g], _, _ => exact preD_ok good_6ttt [e, f, g] rfl
  | [true, true, false, e, f, g], _, _ => exact preD_ok good_6ttf [e, f, g] rfl
  | [true, false, true, e, f, g], _, _ => exact preD_ok good_6tft [e, f, g] rfl
  | [true, false, false, e, f, g], _, _ => exact preD_ok good_6tff [e, f, g] rfl
  | [false, true, true, e, f, g], _, _ => exact preD_ok good_6ftt [e, f, g] rfl
  | [false, true, false, e, f, g], _, _ => exact preD_ok good_6ftf [e, f, g] rfl
  | [false, false, true, e, f, g], _, _ => exact preD_ok good_6fft [e, f, g] rfl
  | [false, false, false, e, f, g], _, _ => exact preD_ok good_6fff [e, f, g] rfl
  | _ :: _ :: _ :: _ :: _ :: _ :: _ :: _, _, h => simp at h
theorem wordL_D (c : Int) (n : Nat) : Txt.join "" (wordL c n) = wordD ((List.range n).map fun i => dig c i == 1) := by
  unfold wordD wordL
  rw [List.map_map]
  congr 1
  refine List.map_congr_left fun i _ => ?_
  show Txt.item "ab" (dig c i) = Txt.item "ab" (match dig c i == 1 with | true => 1 | false => 0)
  rcases dig_01 c i with h | h <;> rw [h] <;> rfl

theorem runs_of {parts : List Nd} {t : Str} {f : List Ent} (ht : t.length ≤ 10000) (h : toldR parts t = some f) : Runs parts t f := by
  unfold toldR at h
  cases e : runAll t 1000 (patOf parts) (t.length + 1) 0 0 [] [] with
  | none => rw [e] at h; cases h
  | some q =>
    obtain ⟨st, vals, log⟩ := q
    rw [e] at h
    dsimp only at h
    cases e2 : tellAll log.reverse (.h0 "") [] with
    | none => rw [e2] at h; cases h
    | some q =>
      obtain ⟨hv, f'⟩ := q
      rw [e2] at h
      cases h
      exact ⟨ht, st, vals, log, hv, e, e2⟩
theorem ents_empty (f : List Ent) : (entsPV f).isEmpty = f.isEmpty := by
  rw [ents_rev]; cases f <;> simp

section
variable (w : World) (mean : ExcName → Option Value) (mg mb : Str → Option Value)
variable (c : Addr)
/-- from the word on, the law hands back True -/
theorem rest_ok {P : Heap → Prop} {x : Str} (hg : good x = true) {p0 p1 p2 : PO} : TSS (wd w mean mg mb) 24 csW (clW c) P (rhoW x) [bd 423 3, bd 423 4, bd 423 5, bd 423 6, bd 423 7, bd 423 8, bd 423 9, bd 423 10, bd 423 11, bd 423 12, bd 423 13, bd 423 14, bd 423 15] [p0, p1, p2] true := by
  unfold good at hg
  obtain ⟨hs, hg⟩ := Bool.and_eq_true_iff.mp hg
  unfold sizes at hs
  simp only [Bool.and_eq_true, Nat.ble_eq] at hs
  obtain ⟨⟨⟨⟨⟨s1, s2⟩, s3⟩, s4⟩, s5⟩, s6⟩ := hs
  have s1' : x.length ≤ 100 := s1
  cases ex : toldR pat5 x with
  | none => rw [ex] at hg; cases hg
  | some fx =>
  rw [ex] at hg
  dsimp only at hg
  cases ey : toldR pat5 (imgT x) with
  | none => rw [ey] at hg; cases hg
  | some fy =>
  rw [ey] at hg
  dsimp only at hg
  cases ez : toldR pat2 (figsT x) with
  | none => rw [ez] at hg; cases hg
  | some fz =>
  rw [ez] at hg
  dsimp only at hg
  unfold agree at hg
  simp only [Bool.and_eq_true, Nat.blt_eq] at hg
  obtain ⟨⟨⟨⟨⟨g1, g2⟩, g3⟩, g4⟩, g5⟩, g6⟩ := hg
  have key : ∃ r, sortP (fz.reverse.map duP) = some r ∧ sortP (foundOf x fx.reverse) = some r := by
    unfold same at g6
    split at g6
    · rename_i r r' e1 e2
      have : r = r' := by simpa using g6
      subst this
      exact ⟨r, e1, e2⟩
    · cases g6
  obtain ⟨r, k1, k2⟩ := key
  have l3 : bd 423 3 = .Assign [.Name "image" (stT (bd 423 3)).pos] (le 3) (stP (bd 423 3)) := by kernel_rfl
  have l4 : bd 423 4 = .Assign [.Name "figures" (stT (bd 423 4)).pos] (le 4) (stP (bd 423 4)) := by kernel_rfl
  rw [l3, l4]
  refine TSS.assign (by kernel_rfl) (by kernel_rfl) (image_ok w mean mg mb c P x p0 p1 p2 (by omega)) ?_
  rw [show setL "image" (.str (Txt.join "" (imgs x))) (rhoW x) = rhoI x (imgT x) from rfl]
  refine TSS.assign (by kernel_rfl) (by kernel_rfl) (figures_ok w mean mg mb c P x (imgT x) p0 p1 p2 _ (by omega) (by omega) (fun a ha => ?_) (fun a ha => ?_)) ?_
  · have := List.all_eq_true.mp s3 a ha
    exact Nat.le_trans (Nat.le_of_ble_eq_true this) (by decide)
  · have := List.all_eq_true.mp s4 a ha
    exact Nat.le_of_ble_eq_true this
  rw [show setL "figures" (.str (Txt.join "" ((figs x).map figT))) (rhoI x (imgT x)) = rhoF x (imgT x) (figsT x) from rfl]
  refine TSS.reset (ρ₁ := rho0 x (imgT x) (figsT x)) (fun n pv e => ?_) ?_
  · unfold rho0 at e
    rw [List.lookup_cons] at e
    split at e
    · rename_i q
      cases e
      obtain rfl : n = "word" := by simpa using q
      exact ⟨rfl, ⟨_, rfl⟩, by kernel_rfl⟩
    · rw [List.lookup_cons] at e
      split at e
      · rename_i q
        cases e
        obtain rfl : n = "image" := by simpa using q
        exact ⟨rfl, ⟨_, rfl⟩, by kernel_rfl⟩
      · rw [List.lookup_cons] at e
        split at e
        · rename_i q
          cases e
          obtain rfl : n = "figures" := by simpa using q
          exact ⟨rfl, ⟨_, rfl⟩, by kernel_rfl⟩
        · cases e
  refine calls_ok w mean mg mb c P (runs_of (by omega) ex) (runs_of (by omega) ey) (runs_of (by omega) ez) fun u => ?_
  refine tail_ok w mean mg mb c u (by omega) (ents_empty fx) ?_ g2 g3 (fun e he => ?_) (fun e he => ?_) k1 k2
  · rw [ents_empty]; exact (beq_iff_eq.mp g1).symm
  · exact Nat.le_trans (Nat.le_of_ble_eq_true (List.all_eq_true.mp g4 e he)) (by decide)
  · exact Nat.le_trans (Nat.le_of_ble_eq_true (List.all_eq_true.mp g5 e he)) (by decide)
end
end Mine
end D33
section D34
namespace Mine
open PM

theorem law_body : (fnAt 423).body = [bd 423 0, bd 423 1, bd 423 2, bd 423 3, bd 423 4, bd 423 5, bd 423 6, bd 423 7, bd 423 8, bd 423 9, bd 423 10, bd 423 11, bd 423 12, bd 423 13, bd 423 14, bd 423 15] := by kernel_rfl
theorem cells_two (ns : List Int) : ∃ c0 c1, cellsOf ns = [c0, c1] := by
  match ns with
  | [] => exact ⟨_, _, rfl⟩
  | [_] => exact ⟨_, _, rfl⟩
  | _ :: _ :: _ => exact ⟨_, _, rfl⟩
section
variable (w : World) (mean : ExcName → Option Value) (mg mb : Str → Option Value)
variable (c a : Addr)
theorem px_0 : px tab O1 100 24 csW [("script", .glo (.ref a))] (bd 423 0) [] = some ((.next, rhoS a), [.list [.int 2, .int 0]], []) := by kernel_rfl
theorem law_ok {vs : List Value} {ns : List Int} (hi : IntsAre vs ns) (hl : ns.length ≤ 63) (A : Around) (env : Env) (h₀ : Heap) (L : Addr) (m : Str → Option Value) (D : List Addr) (I : Led) (s : Shared) (o : Obj) (v₀ : Option Value) (hm : (c, o) ∈ I) (hd : o.data = .cell v₀)
    (hP : h₀.IsList a vs.toArray) (xc : XC (wd w mean mg mb) 24 A env h₀ L csW (clW c)) (F : Fr h₀ L s.heap m) (S : ((wd w mean mg mb)).S h₀ L s.heap [] D I) (lr : LR (wd w mean mg mb) csW (clW c) I D m [("script", .glo (.ref a))])
    (Q : Flow → Shared → Prop) (hQ : ∀ h' tk' m', Fr h₀ L h' m' → Q (.ret (.bool true)) { s with heap := h', toks := tk' }) : wpAny ((wd w mean mg mb)).M A (execs (fnAt 423).body env) Q ff s := by
  rw [law_body]
  have h0 : SOK (wd w mean mg mb) 24 csW [("script", .glo (.ref a))] (bd 423 0) [] .next (rhoS a) [.list [.int 2, .int 0]] := SOK.ev (px_0 a) nil_holds
  refine wpAny_execs_cons (h0 A env h₀ L m D I s (clW c) xc F S lr _ fun f h' tk' m' D' I' F' S' x lr' fr => ?_)
  cases f with
  | next =>
    obtain ⟨c0, c1, ec⟩ := cells_two ns
    obtain ⟨σ₁, hj, rhs⟩ := rhs_ok w mean mg mb c a hi hl
    rw [law_1]
    refine TSS.cell (W := (wd w mean mg mb)) (k := 24) (cs := csW) (cl := clW c) (P := fun h => h.IsList a vs.toArray) (b := true) (ns := cellsOf ns) (by kernel_rfl) (by kernel_rfl) rfl rhs hj ?_ A env h₀ L m' D' I' { s with heap := h', toks := tk' } o v₀ (x.i _ hm) hd hP xc F' S' lr' Q hQ
    rw [ec]
    have l2 : bd 423 2 = .Assign [.Name "word" (stT (bd 423 2)).pos] (le 2) (stP (bd 423 2)) := by kernel_rfl
    rw [l2]
    refine TSS.assign (by kernel_rfl) (by kernel_rfl) (word_ok w mean mg mb c _ c0 c1) ?_
    show TSS (wd w mean mg mb) 24 csW (clW c) _ (rhoW (Txt.join "" (wordL c1 (1 + (c0.fmod 6).toNat)))) _ _ _
    refine rest_ok w mean mg mb c ?_
    rw [wordL_D]
    have h6 : c0.fmod 6 < 6 := by rw [Int.fmod_eq_emod_of_nonneg _ (by decide)]; omega
    exact good_all _ (by simp) (by simp; omega)
  | _ => exact fr.elim
end
end Mine
end D34
section D35
namespace Mine
open PM
theorem law_head {w : World} {mean : ExcName → Option Value} {mg mb : Str → Option Value} {g : Heap} {base : Heap} {s : Shared} {a f : Addr} {cdv : Value} {qual : Str} {vs : List Value} {ns : List Int} {m : Str → Option Value} {o : Obj} {v₀ : Option Value} {Q : Flow → Shared → Prop} {E : Value → Shared → Prop}
    (KX : (hd.heap_39 w.params).In g) (T : Top hd.view_39 (looseW hd.view_39 hd.loose) mean mg mb g) (K0 : Below callerA base [] g)
    (hL : g.IsList a vs.toArray) (hi : IntsAre vs ns) (hl : ns.length ≤ 63) (F : Fr g g.objs.size s.heap m) (N : News g g.objs.size s.heap [(g.objs.size + 1, o)]) (ho : o.data = .cell v₀) (hm : m "script" = some (.ref a))
    (hQ : ∀ h' tk' m', Fr g g.objs.size h' m' → Q (.ret (.bool true)) { s with heap := h', toks := tk' }) :
    wpAny (model PySem.Challenge.rw_xm0954_01.row.prog w) (callerA.deeper (envX qual csW g.objs.size f cdv (clW (g.objs.size + 1)))) (execs (fnAt 423).body (envX qual csW g.objs.size f cdv (clW (g.objs.size + 1)))) Q E s := by
  have xc : XC (wd w mean mg mb) 24 (callerA.deeper (envX qual csW g.objs.size f cdv (clW (g.objs.size + 1)))) (envX qual csW g.objs.size f cdv (clW (g.objs.size + 1))) g g.objs.size csW (clW (g.objs.size + 1)) := by
    refine ⟨wd_ok w mean mg mb, ⟨KX, T⟩, rfl, ?_, ⟨⟨callerA, base, [], K0, ?_⟩, rfl, by kernel_rfl, ?_⟩, ⟨_, _, _, rfl⟩, by kernel_rfl⟩
    · rw [units_deeper, units_caller]; decide +kernel
    · rfl
    · rw [depth_deeper]; decide +kernel
  refine wpAny_mono (law_ok w mean mg mb (g.objs.size + 1) a hi hl _ _ g g.objs.size m [] [(g.objs.size + 1, o)] s o v₀ (.head _) ho hL xc F ⟨[], N, .nil, List.nodup_nil, fun _ _ h => nomatch h⟩ (fun x pv e => ?_) Q hQ) (fun _ _ q => q) fun _ _ q => q.elim
  rw [List.lookup_cons] at e
  split at e
  · rename_i q
    cases e
    obtain rfl : x = "script" := by simpa using q
    rw [show csW.names.lookup ("script" : Str) = some .local by kernel_rfl]
    exact ⟨_, hm, .glo _⟩
  · cases e
theorem law_head' {w : World} {mean : ExcName → Option Value} {mg mb : Str → Option Value} {g : Heap} {base : Heap} {s : Shared} {a f : Addr} {cdv : Value} {qual : Str} {sc : Scope} {vs : List Value} {ns : List Int} {m : Str → Option Value} {o : Obj} {v₀ : Option Value} {Q : Flow → Shared → Prop} {E : Value → Shared → Prop} {env : Env} {body : List Stmt}
    (henv : env = envOfC qual sc g.objs.size f cdv) (hsc : sc = csW) (hb : body = (fnAt 423).body)
    (KX : (hd.heap_39 w.params).In g) (T : Top hd.view_39 (looseW hd.view_39 hd.loose) mean mg mb g) (K0 : Below callerA base [] g)
    (hL : g.IsList a vs.toArray) (hi : IntsAre vs ns) (hl : ns.length ≤ 63) (F : Fr g g.objs.size s.heap m) (N : News g g.objs.size s.heap [(g.objs.size + 1, o)]) (ho : o.data = .cell v₀) (hm : m "script" = some (.ref a))
    (hQ : ∀ h' tk' m', Fr g g.objs.size h' m' → Q (.ret (.bool true)) { s with heap := h', toks := tk' }) :
    wpAny (model PySem.Challenge.rw_xm0954_01.row.prog w) (callerA.deeper env) (execs body env) Q E s := by
  subst hsc hb
  have e : env = envX qual csW g.objs.size f cdv (clW (g.objs.size + 1)) := by
    rw [henv]
    kernel_rfl
  rw [e]
  exact law_head KX T K0 hL hi hl F N ho hm hQ
end Mine
end D35
set_option maxHeartbeats 0
theorem PySem.Challenge.cw_xm0954_01_holds : PySem.Challenge.rw_xm0954_01.Holds := by
  refine Mine.hd.top ?_
  w_on
  intro w s₀ s₁ mg mb G Y fa o pm cd doc dV kV ho hd hcd hD hmg hg args vals as hpre hlay hrd hwl hlo
  have KX := kIn_of Y
  refine Ground.open G ?_
  intro T B D TE TW
  clear D TE TW
  obtain ⟨_, _, M⟩ := bmod_of_top T
  have TA := at_of_top T
  obtain ⟨_, _, he, B0⟩ := based_of_top T rfl hmg ho hd
  have he' : cd = _ := he
  subst he'
  clear he hmg
  wrow_args hpre hlay hrd hwl hlo
  refine enter_call ?_
  w_top on
  try refine codeAny_mono ?_ (fun _ _ g => GoodW.toG g)
  have K0 := below_caller (Top.heap T)
  w_call any ho hd hcd hD T F
  refine Mine.law_head' (by rfl) (by kernel_rfl) (by kernel_rfl) (by assumption) (by assumption) (by assumption) (by assumption) (by assumption) (by omega) (by assumption) (by assumption) (by assumption) (by kernel_rfl) ?_
  intro h9 t9 m9 F9
  refine goodW_bool F9 (by assumption) (raisesW_false ?hn) ?hp
  case hn => wrow_none_raised
  case hp => kernel_rfl
